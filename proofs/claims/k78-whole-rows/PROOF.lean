import PyProof.Rows.All
import Wide.All
import OpenK.AllK
import Wide.FinOn
import HandS.Base
import HandS.Call
import HandS.List
import HandS.Comp
import HandS.Ends
import HandS.Words
import HandS.WordsList
import HandS.Conv
import HandS.Dict
import HandS.Iter
import HandS.Deep
import HandS.Style
import KE.KeyNested
import KE.KDictKeyed
import KE.KDictDisplayH
import KE.KDictCopyH
import KE.KDictSum
import KE.SortData
import HandS.SetKeys
import HandS.SetBool
import HandS.DictComp
import HandS.TupSets
import HandS.Strs
import HandS.Zip
import KE.GoesMore
import KE.KDictZip
import KE.GoesEnum
import KE.KStateDown
import Lean
import HandS.More
import HandS.WordsExc
import HandS.Defaults
import HandS.Head0
import HandS.Head1
import HandS.Head2
import HandS.HeadEnd
import HandS.HeadHook1
import HandS.HeadHook2
import PySem.Challenge.RW_endsandround_k78_whole_rows_read_from_th
import HandS.IsInst
import HandS.Walk
import PyProof.ReprRoads
import PyProof.CallFns
import PyProof.FitsInt
/-! text K1 -/
set_option Elab.async false
set_option linter.all false
set_option maxRecDepth 100000
set_option maxHeartbeats 1000000
namespace K78
open PySem PySem.Spec PyProof.Rows L2

/-! ### heaps: what is known (G), what stands (H) -/
theorem Same.none_of {G H : Hp} (e : L2.Same G H) {p : Addr} (h : H p = none) : G p = none := e.free h
mutual
theorem dp_same {K : PySem.W.Frag} {H H' : Hp} (e : L2.Same H H') : ∀ (d : PyData) (v : V), Dp K H v d → Dp K H' v d
  | .none, _, h => by cases h; exact .non
  | .bool b, _, h => by cases h; exact .bl b
  | .int i, _, h => by cases h; exact .int i
  | .str x, _, h => by cases h; exact .str x
  | .list ds, _, h => by
    cases h with
    | lst hs ha => exact .lst (e.seq hs) (dpAll_same e ds _ ha)
  | .tuple ds, _, h => by
    cases h with
    | tup hs ha =>
      refine .tup ?_ (dpAll_same e ds _ ha)
      rcases hs with (q | ⟨o, q⟩) | q
      · exact .inl (.inl (e _ _ q))
      · exact .inl (.inr ⟨o, e _ _ q⟩)
      · exact .inr q
  | .dict _, _, h => by cases h
theorem dpAll_same {K : PySem.W.Frag} {H H' : Hp} (e : L2.Same H H') : ∀ (ds : List PyData) (vs : List V), DpAll K H vs ds → DpAll K H' vs ds
  | [], _, h => by cases h; exact .nil
  | d :: ds, _, h => by
    cases h with
    | cons h1 h2 => exact .cons (dp_same e d _ h1) (dpAll_same e ds _ h2)
end
theorem same_t {K : PySem.W.Frag} {H H' : Hp} {a : Addr} {xs : List V} (e : L2.Same H H') (h : SqT K H a xs) : SqT K H' a xs := by
  rcases h with (q | ⟨o, q⟩) | q
  · exact .inl (.inl (e _ _ q))
  · exact .inl (.inr ⟨o, e _ _ q⟩)
  · exact .inr q

/-- from what is known and stands (G, H) to (G', H'): only what stands at X may have changed -/
structure Ext (X : List Addr) (G H G' H' : Hp) : Prop where
  gg : L2.Same G G'
  gh : L2.Same G' H'
  hh : ∀ b o, H b = some o → b ∉ X → H' b = some o
  th : ∀ b, H b ≠ none → H' b ≠ none
  fr : ∀ b, G b = none → H b ≠ none → G' b = none
section
variable {X Y : List Addr} {G H G1 H1 G2 H2 G0 H0 : Hp} {p : Addr} {o : HO}
theorem Ext.refl (gh : L2.Same G H) : Ext X G H G H := ⟨L2.Same.refl G, gh, fun _ _ h _ => h, fun _ h => h, fun _ h _ => h⟩
theorem Ext.trans (a : Ext X G H G1 H1) (b : Ext X G1 H1 G2 H2) : Ext X G H G2 H2 :=
  ⟨a.gg.trans b.gg, b.gh, fun c u h hx => b.hh c u (a.hh c u h hx) hx, fun c h => b.th c (a.th c h), fun c h h2 => b.fr c (a.fr c h h2) (a.th c h2)⟩
theorem Ext.mono (a : Ext X G H G1 H1) (h : ∀ b ∈ X, b ∈ Y) : Ext Y G H G1 H1 := ⟨a.gg, a.gh, fun c u q hx => a.hh c u q fun z => hx (h c z), a.th, a.fr⟩
theorem Ext.up (a : Ext [] G H G1 H1) : Ext Y G H G1 H1 := a.mono fun b h => by cases h
theorem Ext.same (a : Ext [] G H G1 H1) : L2.Same H H1 := fun b u h => a.hh b u h (by simp)
/-- a new thing, known from now on -/
theorem Ext.new (e : Ext X G0 H0 G H) (hp : H p = none) : Ext X G0 H0 (upd G p o) (upd H p o) := by
  have hg : G p = none := e.gh.free hp
  have h0 : H0 p = none := by
    cases q : H0 p with
    | none => rfl
    | some u => exact absurd hp (e.th p (by rw [q]; simp))
  refine ⟨fun b u h => ?_, fun b u h => ?_, fun b u h hx => ?_, fun b h => ?_, fun b h h2 => ?_⟩
  · rw [upd_ne (ne_of_none (e.gg b u h) hg)]; exact e.gg b u h
  · by_cases hb : b = p
    · subst hb; rw [upd_same] at h ⊢; exact h
    · rw [upd_ne hb] at h ⊢; exact e.gh b u h
  · rw [upd_ne (ne_of_none h h0)]; exact e.hh b u h hx
  · by_cases hb : b = p
    · subst hb; rw [upd_same]; simp
    · rw [upd_ne hb]; exact e.th b h
  · have hb : b ≠ p := fun z => h2 (by rw [z]; exact h0)
    rw [upd_ne hb]; exact e.fr b h h2
/-- a new thing that may change -/
theorem Ext.newM (e : Ext X G0 H0 G H) (hp : H p = none) : Ext X G0 H0 G (upd H p o) := by
  have h0 : H0 p = none := by
    cases q : H0 p with
    | none => rfl
    | some u => exact absurd hp (e.th p (by rw [q]; simp))
  refine ⟨e.gg, fun b u h => ?_, fun b u h hx => ?_, fun b h => ?_, e.fr⟩
  · rw [upd_ne (ne_of_none (e.gh b u h) hp)]; exact e.gh b u h
  · rw [upd_ne (ne_of_none h h0)]; exact e.hh b u h hx
  · by_cases hb : b = p
    · subst hb; rw [upd_same]; simp
    · rw [upd_ne hb]; exact e.th b h
theorem Ext.base (e : Ext X G0 H0 G H) (hp : H p = none) : H0 p = none := by
  cases q : H0 p with
  | none => rfl
  | some u => exact absurd hp (e.th p (by rw [q]; simp))
/-- it changes -/
theorem Ext.mut (e : Ext X G0 H0 G H) (h0 : H0 p = none ∨ p ∈ X) (hg : G p = none) : Ext X G0 H0 G (upd H p o) := by
  refine ⟨e.gg, fun b u h => ?_, fun b u h hx => ?_, fun b h => ?_, e.fr⟩
  · rw [upd_ne (ne_of_none h hg)]; exact e.gh b u h
  · have hb : b ≠ p := by
      rintro rfl
      rcases h0 with z | z
      · rw [z] at h; cases h
      · exact hx z
    rw [upd_ne hb]; exact e.hh b u h hx
  · by_cases hb : b = p
    · subst hb; rw [upd_same]; simp
    · rw [upd_ne hb]; exact e.th b h
/-- from now on it is known -/
theorem Ext.pub (e : Ext X G0 H0 G H) (h0 : H0 p = none) (hg : G p = none) (hp : H p = some o) : Ext X G0 H0 (upd G p o) H := by
  refine ⟨fun b u h => ?_, fun b u h => ?_, e.hh, e.th, fun b h h2 => ?_⟩
  · rw [upd_ne (ne_of_none (e.gg b u h) hg)]; exact e.gg b u h
  · by_cases hb : b = p
    · subst hb; rw [upd_same] at h; rw [hp]; exact h
    · rw [upd_ne hb] at h; exact e.gh b u h
  · have hb : b ≠ p := fun z => h2 (by rw [z]; exact h0)
    rw [upd_ne hb]; exact e.fr b h h2
/-- a thing that may change, over a step that leaves it -/
theorem Ext.keepM (e : Ext X G H G1 H1) (hp : H p = some o) (hg : G p = none) (hx : p ∉ X) : H1 p = some o ∧ G1 p = none := ⟨e.hh p o hp hx, e.fr p hg (by rw [hp]; simp)⟩
end

/-! ### data by shape -/
abbrev eI (n : Nat) : PyData := .int (n : Int)
abbrev eR (r : List Nat) : PyData := .tuple (r.map eI)
abbrev eRR (S : List (List Nat)) : PyData := .tuple (S.map eR)
abbrev eL (r : List Nat) : PyData := .list (r.map eI)
abbrev eLL (S : List (List Nat)) : PyData := .list (S.map eL)
abbrev eLR (S : List (List Nat)) : PyData := .list (S.map eR)
abbrev eP (p : Nat × Nat) : PyData := .tuple [eI p.1, eI p.2]
abbrev ePs (l : List (Nat × Nat)) : PyData := .tuple (l.map eP)
abbrev eLP (l : List (Nat × Nat)) : PyData := .list (l.map eP)
abbrev vI (n : Nat) : V := .int (n : Int)

section
variable {K : PySem.W.Frag} {G H : Hp} {v : V} {ds : List PyData} {d : PyData}
theorem dpA_len : ∀ {vs : List V} {ds : List PyData}, DpAll K H vs ds → vs.length = ds.length
  | _, _, .nil => rfl
  | _, _, .cons _ t => by rw [List.length_cons, List.length_cons, dpA_len t]
theorem dpA_at : ∀ {vs : List V} {ds : List PyData} {i : Nat} {d : PyData}, DpAll K H vs ds → ds[i]? = some d → ∃ v, vs[i]? = some v ∧ Dp K H v d
  | _, _, _, _, .nil, e => by simp at e
  | _, _, 0, _, .cons r _, e => by simp at e; subst e; exact ⟨_, rfl, r⟩
  | _, _, i + 1, d, .cons _ t, e => by
    obtain ⟨v, h1, h2⟩ := dpA_at (i := i) (d := d) t (by simpa using e)
    exact ⟨v, by simpa using h1, h2⟩
theorem dpA_at' : ∀ {vs : List V} {ds : List PyData} {i : Nat} {v : V}, DpAll K H vs ds → vs[i]? = some v → ∃ d, ds[i]? = some d ∧ Dp K H v d
  | _, _, _, _, .nil, e => by simp at e
  | _, _, 0, _, .cons r _, e => by simp at e; subst e; exact ⟨_, rfl, r⟩
  | _, _, i + 1, v, .cons _ t, e => by
    obtain ⟨d, h1, h2⟩ := dpA_at' (i := i) (v := v) t (by simpa using e)
    exact ⟨d, by simpa using h1, h2⟩
theorem dpA_app : ∀ {vs ws : List V} {ds es : List PyData}, DpAll K H vs ds → DpAll K H ws es → DpAll K H (vs ++ ws) (ds ++ es)
  | _, _, _, _, .nil, h => h
  | _, _, _, _, .cons r t, h => .cons r (dpA_app t h)
theorem dpA_of : ∀ {vs : List V} {ds : List PyData}, vs.length = ds.length → (∀ (i : Nat) v d, vs[i]? = some v → ds[i]? = some d → Dp K H v d) → DpAll K H vs ds
  | [], [], _, _ => .nil
  | [], _ :: _, h, _ => by simp at h
  | _ :: _, [], h, _ => by simp at h
  | v :: vs, d :: ds, h, f => .cons (f 0 v d rfl rfl) (dpA_of (by simpa using h) fun i a b h1 h2 => f (i + 1) a b (by simpa using h1) (by simpa using h2))
theorem dpA_ints : ∀ (l : List Nat), DpAll K H (l.map vI) (l.map eI)
  | [] => .nil
  | _ :: r => .cons (.int _) (dpA_ints r)
theorem dpAll_ints : ∀ {l : List Nat} {vs : List V}, DpAll K H vs (l.map eI) → vs = l.map vI
  | [], _, h => by cases h; rfl
  | _ :: r, _, h => by
    cases h with
    | cons h1 h2 => cases h1; rw [dpAll_ints h2]; rfl
theorem dp_tuple (h : Dp K G v (.tuple ds)) : ∃ a xs, v = .ref a ∧ SqT K G a xs ∧ DpAll K G xs ds := by
  cases h with
  | tup a b => exact ⟨_, _, rfl, a, b⟩
theorem dp_list (h : Dp K G v (.list ds)) : ∃ a xs, v = .ref a ∧ SqL K G a xs ∧ DpAll K G xs ds := by
  cases h with
  | lst a b => exact ⟨_, _, rfl, a, b⟩
theorem dp_int {i : Int} (h : Dp K G v (.int i)) : v = .int i := by cases h; rfl
theorem dp_up {H' : Hp} (e : L2.Same G H') (h : Dp K G v d) : Dp K H' v d := dp_same e d v h
theorem dpA_up {H' : Hp} {vs : List V} (e : L2.Same G H') (h : DpAll K G vs ds) : DpAll K H' vs ds := dpAll_same e ds vs h
theorem dp_row {r : List Nat} (h : Dp K G v (eR r)) : ∃ a, v = .ref a ∧ SqT K G a (r.map vI) := by
  obtain ⟨a, xs, rfl, h1, h2⟩ := dp_tuple h
  rw [dpAll_ints h2] at h1
  exact ⟨a, rfl, h1⟩

/-! ### readings: an item -/
theorem rd_ixT {i : Nat} {Q : VK} (h : Dp K G v (.tuple ds)) (gh : L2.Same G H) (hd : ds[i]? = some d) (k : ∀ u, Dp K G u d → Q u H) : rIxT K v (.int (i : Int)) H Q := by
  obtain ⟨a, xs, rfl, h1, h2⟩ := dp_tuple h
  obtain ⟨u, hu, hv⟩ := dpA_at h2 hd
  exact ⟨a, xs, _, u, rfl, rfl, same_t gh h1, atI_nat hu, k u hv⟩
theorem rd_ixL {i : Nat} {Q : VK} (h : Dp K G v (.list ds)) (gh : L2.Same G H) (hd : ds[i]? = some d) (k : ∀ u, Dp K G u d → Q u H) : rIxL K v (.int (i : Int)) H Q := by
  obtain ⟨a, xs, rfl, h1, h2⟩ := dp_list h
  obtain ⟨u, hu, hv⟩ := dpA_at h2 hd
  exact ⟨a, xs, _, u, rfl, rfl, gh.seq h1, atI_nat hu, k u hv⟩
end

/-! ### comprehensions: the state within -/
/-- within a list comprehension that fills D, begun at (G, H): i turns done; each item v of the list has its P; M of what may change elsewhere -/
def LcW (X : List Addr) (G H : Hp) (M : Hp → Hp → Prop) (P : Nat → Hp → V → Prop) (D : Addr) (i : Nat) (H' : Hp) : Prop :=
  ∃ G' acc, Ext X G H G' H' ∧ H D = none ∧ D ∉ X ∧ H' D = some (.lst acc) ∧ G' D = none ∧ acc.length = i ∧ (∀ (j : Nat) v, acc[j]? = some v → P j G' v) ∧ M G' H'
section
variable {K : PySem.W.Frag} {X : List Addr} {G H : Hp} {M : Hp → Hp → Prop} {P : Nat → Hp → V → Prop} {D a : Addr} {σ : L2.St} {te tl : TE} {vs : List Nat} {n j : Nat} {Qd : Hp → Prop}
theorem lcw_start (gh : L2.Same G H) (hD : H D = none) (hX : ∀ b ∈ X, H b ≠ none) (hM : M G (upd H D (.lst []))) : LcW X G H M P D 0 (upd H D (.lst [])) :=
  ⟨G, [], (Ext.refl gh).newM hD, hD, fun h => hX D h hD, upd_same, gh.free hD, rfl, fun j v h => by simp at h, hM⟩
theorem lcw_turn {i : Nat} {H' : Hp} {σ2 : L2.St} (p : LcW X G H M P D i H') (hi : i < 1000000) (hP : ∀ j G1 G2 v, L2.Same G1 G2 → P j G1 v → P j G2 v) (hMu : ∀ G1 H1 o, M G1 H1 → H D = none → D ∉ X → M G1 (upd H1 D o))
    (turn : ∀ G1 H1, Ext X G H G1 H1 → M G1 H1 → ∀ Q : VK, (∀ v G2 H2, Ext X G1 H1 G2 H2 → M G2 H2 → P i G2 v → Q v H2) → te σ2 H1 Q) :
    te σ2 H' fun y H4 => ∃ acc, H4 D = some (.lst acc) ∧ acc.length < sizeLine ∧ LcW X G H M P D (i + 1) (upd H4 D (.lst (acc ++ [y]))) := by
  obtain ⟨G', acc, e, hD, hx, h1, h2, hl, hp, hm⟩ := p
  refine turn G' H' e hm _ fun v G2 H2 e2 m2 p2 => ?_
  obtain ⟨k1, k2⟩ := e2.keepM h1 h2 hx
  refine ⟨acc, k1, Nat.lt_of_le_of_lt (by omega : acc.length ≤ 1000000) (by decide), G2, acc ++ [v], (e.trans e2).mut (.inl hD) k2, hD, hx, upd_same, k2, by simp [hl], fun j u hj => ?_, hMu _ _ _ m2 hD hx⟩
  by_cases hlt : j < acc.length
  · rw [List.getElem?_append_left hlt] at hj
    exact hP j _ _ _ e2.gg (hp j u hj)
  · have hj' : j = acc.length := by
      have := (List.getElem?_eq_some_iff.mp hj).1
      simp at this
      omega
    subst hj'
    simp at hj
    subst hj
    rw [hl]; exact p2
theorem lcw_done {H' : Hp} (p : LcW X G H M P D n H') (k : ∀ G' H' vs, Ext X G H G' H' → G' D = some (.lst vs) → vs.length = n → (∀ (j : Nat) v, vs[j]? = some v → P j G' v) → M G' H' → Qd H')
    (hP : ∀ j G1 G2 v, L2.Same G1 G2 → P j G1 v → P j G2 v) (hMg : ∀ G1 H1 o, M G1 H1 → G1 D = none → H1 D = some o → H D = none → D ∉ X → M (upd G1 D o) H1) : Qd H' := by
  obtain ⟨G', acc, e, hD, hx, h1, h2, hl, hp, hm⟩ := p
  refine k (upd G' D (.lst acc)) H' acc (e.pub hD h2 h1) upd_same hl (fun j v hj => hP j _ _ _ (fun b o q => ?_) (hp j v hj)) (hMg _ _ _ hm h2 h1 hD hx)
  rw [upd_ne (ne_of_none q h2)]; exact q
end
end K78

/-! text K2 -/
set_option Elab.async false
set_option linter.all false
set_option maxRecDepth 100000
set_option maxHeartbeats 1000000
namespace K78
open PySem PySem.Spec PyProof.Rows L2

/-! ### comprehensions over a tuple, a list, a range -/
section
variable {K : PySem.W.Frag} {X : List Addr} {G H : Hp} {M : Hp → Hp → Prop} {P : Nat → Hp → V → Prop} {D a : Addr} {σ : L2.St} {te tl : TE} {vs : List Nat} {n j : Nat} {Qd : Hp → Prop}
/-- what a turn asks -/
abbrev LcTurn (X : List Addr) (G H : Hp) (M : Hp → Hp → Prop) (P : Nat → Hp → V → Prop) (te : TE) (σ2 : L2.St) (i : Nat) : Prop :=
  ∀ G1 H1, Ext X G H G1 H1 → M G1 H1 → ∀ Q : VK, (∀ v G2 H2, Ext X G1 H1 G2 H2 → M G2 H2 → P i G2 v → Q v H2) → te σ2 H1 Q
abbrev LcDone (X : List Addr) (G H : Hp) (M : Hp → Hp → Prop) (P : Nat → Hp → V → Prop) (D : Addr) (n : Nat) (Qd : Hp → Prop) : Prop :=
  ∀ G' H' vs, Ext X G H G' H' → G' D = some (.lst vs) → vs.length = n → (∀ (j : Nat) v, vs[j]? = some v → P j G' v) → M G' H' → Qd H'
/-- what may change elsewhere is not touched by a new list -/
structure Apart (M : Hp → Hp → Prop) (H : Hp) (X : List Addr) : Prop where
  mu : ∀ G1 H1 D o, M G1 H1 → H D = none → D ∉ X → M G1 (upd H1 D o)
  pub : ∀ G1 H1 D o, M G1 H1 → G1 D = none → H1 D = some o → H D = none → D ∉ X → M (upd G1 D o) H1
abbrev Grows (P : Nat → Hp → V → Prop) : Prop := ∀ (j : Nat) G1 G2 v, L2.Same G1 G2 → P j G1 v → P j G2 v
theorem lcT {xs : List V} (gh : L2.Same G H) (src : SqT K G a xs) (hD : H D = none) (hX : ∀ b ∈ X, H b ≠ none) (hw : ∀ x, wipe ((wipe σ vs).set j (some x)) vs = wipe σ vs) (hl : xs.length < 1000000) (hP : Grows P) (hM : Apart M H X) (hM0 : M G H)
    (turn : ∀ (i : Nat) x, xs[i]? = some x → LcTurn X G H M P te ((wipe σ vs).set j (some x)) i) (done : LcDone X G H M P D xs.length Qd) :
    ∃ W : Nat → Nat → Hp → Prop, (∃ m, W 0 m (upd H D (.lst []))) ∧ ∀ i m H, W i m H →
      ((Itt K a).stop i H ∧ Qd H) ∨ ((Itt K a).go i H ∧ ∃ Nx : Hp → Prop, (∀ H', Nx H' → ∃ m', m' < m ∧ W (i + 1) m' H') ∧ ∀ x H', (Itt K a).yld i H x H' → gName j x (wipe σ vs) H' fun σ2 H2 => wipe σ2 vs = wipe σ vs ∧ tYes σ2 H2 fun b H3 =>
        if b = true then te σ2 H3 fun y H4 => ∃ acc, H4 D = some (.lst acc) ∧ acc.length < sizeLine ∧ Nx (upd H4 D (.lst (acc ++ [y]))) else Nx H3) := by
  have dx : D ∉ X := fun h => hX D h hD
  refine lc_tup (LcW X G H M P D) (lcw_start gh hD hX (hM.mu _ _ _ _ hM0 hD dx)) (fun i H' _ ⟨G', _, e, _⟩ => same_t (e.gg.trans e.gh) src) (fun i x H' hi p => ?_) (fun H' p => lcw_done p done hP fun _ _ _ h1 h2 h3 h4 h5 => hM.pub _ _ _ _ h1 h2 h3 h4 h5)
  refine ⟨hw x, ?_⟩
  unfold tYes
  dsimp only
  rw [if_pos rfl]
  exact lcw_turn p (by have := (List.getElem?_eq_some_iff.mp hi).1; omega) hP (fun _ _ _ h1 h2 h3 => hM.mu _ _ _ _ h1 h2 h3) (turn i x hi)
theorem lcL {xs : List V} (gh : L2.Same G H) (src : SqL K G a xs) (hD : H D = none) (hX : ∀ b ∈ X, H b ≠ none) (hw : ∀ x, wipe ((wipe σ vs).set j (some x)) vs = wipe σ vs) (hl : xs.length < 1000000) (hP : Grows P) (hM : Apart M H X) (hM0 : M G H)
    (turn : ∀ (i : Nat) x, xs[i]? = some x → LcTurn X G H M P te ((wipe σ vs).set j (some x)) i) (done : LcDone X G H M P D xs.length Qd) :
    ∃ W : Nat → Nat → Hp → Prop, (∃ m, W 0 m (upd H D (.lst []))) ∧ ∀ i m H, W i m H →
      ((Itl K a).stop i H ∧ Qd H) ∨ ((Itl K a).go i H ∧ ∃ Nx : Hp → Prop, (∀ H', Nx H' → ∃ m', m' < m ∧ W (i + 1) m' H') ∧ ∀ x H', (Itl K a).yld i H x H' → gName j x (wipe σ vs) H' fun σ2 H2 => wipe σ2 vs = wipe σ vs ∧ tYes σ2 H2 fun b H3 =>
        if b = true then te σ2 H3 fun y H4 => ∃ acc, H4 D = some (.lst acc) ∧ acc.length < sizeLine ∧ Nx (upd H4 D (.lst (acc ++ [y]))) else Nx H3) := by
  have dx : D ∉ X := fun h => hX D h hD
  refine lc_list (LcW X G H M P D) (lcw_start gh hD hX (hM.mu _ _ _ _ hM0 hD dx)) (fun i H' _ ⟨G', _, e, _⟩ => (e.gg.trans e.gh).seq src) (fun i x H' hi p => ?_) (fun H' p => lcw_done p done hP fun _ _ _ h1 h2 h3 h4 h5 => hM.pub _ _ _ _ h1 h2 h3 h4 h5)
  refine ⟨hw x, ?_⟩
  unfold tYes
  dsimp only
  rw [if_pos rfl]
  exact lcw_turn p (by have := (List.getElem?_eq_some_iff.mp hi).1; omega) hP (fun _ _ _ h1 h2 h3 => hM.mu _ _ _ _ h1 h2 h3) (turn i x hi)
theorem lcR {lo : Int} {n : Nat} (gh : L2.Same G H) (hD : H D = none) (hX : ∀ b ∈ X, H b ≠ none) (hw : ∀ x, wipe ((wipe σ vs).set j (some x)) vs = wipe σ vs) (hl : n < 1000000) (hP : Grows P) (hM : Apart M H X) (hM0 : M G H)
    (turn : ∀ (i : Nat), i < n → LcTurn X G H M P te ((wipe σ vs).set j (some (.int (lo + (i : Nat))))) i) (done : LcDone X G H M P D n Qd) :
    ∃ W : Nat → Nat → Hp → Prop, (∃ m, W 0 m (upd H D (.lst []))) ∧ ∀ i m H, W i m H →
      ((Itr lo n).stop i H ∧ Qd H) ∨ ((Itr lo n).go i H ∧ ∃ Nx : Hp → Prop, (∀ H', Nx H' → ∃ m', m' < m ∧ W (i + 1) m' H') ∧ ∀ x H', (Itr lo n).yld i H x H' → gName j x (wipe σ vs) H' fun σ2 H2 => wipe σ2 vs = wipe σ vs ∧ tYes σ2 H2 fun b H3 =>
        if b = true then te σ2 H3 fun y H4 => ∃ acc, H4 D = some (.lst acc) ∧ acc.length < sizeLine ∧ Nx (upd H4 D (.lst (acc ++ [y]))) else Nx H3) := by
  have dx : D ∉ X := fun h => hX D h hD
  refine lc_range (LcW X G H M P D) (lcw_start gh hD hX (hM.mu _ _ _ _ hM0 hD dx)) (fun i H' hi p => ?_) (fun H' p => lcw_done p done hP fun _ _ _ h1 h2 h3 h4 h5 => hM.pub _ _ _ _ h1 h2 h3 h4 h5)
  refine ⟨hw _, ?_⟩
  unfold tYes
  dsimp only
  rw [if_pos rfl]
  exact lcw_turn p (by omega) hP (fun _ _ _ h1 h2 h3 => hM.mu _ _ _ _ h1 h2 h3) (turn i hi)

/-! .. where nothing changes elsewhere, and the items are data -/
abbrev M0 : Hp → Hp → Prop := fun _ _ => True
abbrev PD (K : PySem.W.Frag) (f : List PyData) : Nat → Hp → V → Prop := fun i G v => ∃ r, f[i]? = some r ∧ Dp K G v r
theorem apart0 {H : Hp} {X : List Addr} : Apart M0 H X := ⟨fun _ _ _ _ _ _ _ => trivial, fun _ _ _ _ _ _ _ _ _ => trivial⟩
theorem growsD {f : List PyData} : Grows (PD K f) := fun _ _ _ _ e ⟨r, h1, h2⟩ => ⟨r, h1, dp_up e h2⟩
abbrev LcTurnD (K : PySem.W.Frag) (G H : Hp) (te : TE) (σ2 : L2.St) (r : PyData) : Prop :=
  ∀ G1 H1, Ext [] G H G1 H1 → ∀ Q : VK, (∀ v G2 H2, Ext [] G1 H1 G2 H2 → Dp K G2 v r → Q v H2) → te σ2 H1 Q
/-- a list that stands as such, of such data -/
def Ld (K : PySem.W.Frag) (G : Hp) (v : V) (ds : List PyData) : Prop := ∃ a xs, v = .ref a ∧ G a = some (.lst xs) ∧ DpAll K G xs ds
theorem ld_dp {v : V} {ds : List PyData} (h : Ld K G v ds) : Dp K G v (.list ds) := by
  obtain ⟨a, xs, rfl, h1, h2⟩ := h
  exact .lst (.of h1) h2
theorem ld_up {v : V} {ds : List PyData} {H' : Hp} (e : L2.Same G H') (h : Ld K G v ds) : Ld K H' v ds := by
  obtain ⟨a, xs, rfl, h1, h2⟩ := h
  exact ⟨a, xs, rfl, e _ _ h1, dpA_up e h2⟩
abbrev LcDoneD (K : PySem.W.Frag) (G H : Hp) (D : Addr) (f : List PyData) (Qd : Hp → Prop) : Prop := ∀ G' H', Ext [] G H G' H' → Ld K G' (.ref D) f → Qd H'
theorem lc_turnD {f : List PyData} {σ2 : L2.St} {i : Nat} {r : PyData} (hr : f[i]? = some r) (t : LcTurnD K G H te σ2 r) : LcTurn [] G H M0 (PD K f) te σ2 i := fun G1 H1 e _ Q q =>
  t G1 H1 e Q fun v G2 H2 e2 d => q v G2 H2 e2 trivial ⟨r, hr, d⟩
theorem lc_doneD {f : List PyData} {n : Nat} (hn : f.length = n) (d : LcDoneD K G H D f Qd) : LcDone [] G H M0 (PD K f) D n Qd := fun G' H' vs e h1 h2 h3 _ =>
  d G' H' e ⟨D, vs, rfl, h1, dpA_of (by omega) fun i v r hv hr => by
    obtain ⟨r', h, q⟩ := h3 i v hv
    rw [hr] at h
    cases h
    exact q⟩
theorem lcTD {xs : List V} (f : List PyData) (hf : f.length = xs.length) (gh : L2.Same G H) (src : SqT K G a xs) (hD : H D = none) (hw : ∀ x, wipe ((wipe σ vs).set j (some x)) vs = wipe σ vs) (hl : xs.length < 1000000)
    (turn : ∀ (i : Nat) x r, xs[i]? = some x → f[i]? = some r → LcTurnD K G H te ((wipe σ vs).set j (some x)) r) (done : LcDoneD K G H D f Qd) :
    ∃ W : Nat → Nat → Hp → Prop, (∃ m, W 0 m (upd H D (.lst []))) ∧ ∀ i m H, W i m H →
      ((Itt K a).stop i H ∧ Qd H) ∨ ((Itt K a).go i H ∧ ∃ Nx : Hp → Prop, (∀ H', Nx H' → ∃ m', m' < m ∧ W (i + 1) m' H') ∧ ∀ x H', (Itt K a).yld i H x H' → gName j x (wipe σ vs) H' fun σ2 H2 => wipe σ2 vs = wipe σ vs ∧ tYes σ2 H2 fun b H3 =>
        if b = true then te σ2 H3 fun y H4 => ∃ acc, H4 D = some (.lst acc) ∧ acc.length < sizeLine ∧ Nx (upd H4 D (.lst (acc ++ [y]))) else Nx H3) :=
  lcT (M := M0) (P := PD K f) gh src hD (by simp) hw hl growsD apart0 trivial (fun i x hi => by
    have hlt : i < f.length := by rw [hf]; exact (List.getElem?_eq_some_iff.mp hi).1
    exact lc_turnD (List.getElem?_eq_getElem hlt) (turn i x _ hi (List.getElem?_eq_getElem hlt))) (lc_doneD hf done)
theorem lcLD {xs : List V} (f : List PyData) (hf : f.length = xs.length) (gh : L2.Same G H) (src : SqL K G a xs) (hD : H D = none) (hw : ∀ x, wipe ((wipe σ vs).set j (some x)) vs = wipe σ vs) (hl : xs.length < 1000000)
    (turn : ∀ (i : Nat) x r, xs[i]? = some x → f[i]? = some r → LcTurnD K G H te ((wipe σ vs).set j (some x)) r) (done : LcDoneD K G H D f Qd) :
    ∃ W : Nat → Nat → Hp → Prop, (∃ m, W 0 m (upd H D (.lst []))) ∧ ∀ i m H, W i m H →
      ((Itl K a).stop i H ∧ Qd H) ∨ ((Itl K a).go i H ∧ ∃ Nx : Hp → Prop, (∀ H', Nx H' → ∃ m', m' < m ∧ W (i + 1) m' H') ∧ ∀ x H', (Itl K a).yld i H x H' → gName j x (wipe σ vs) H' fun σ2 H2 => wipe σ2 vs = wipe σ vs ∧ tYes σ2 H2 fun b H3 =>
        if b = true then te σ2 H3 fun y H4 => ∃ acc, H4 D = some (.lst acc) ∧ acc.length < sizeLine ∧ Nx (upd H4 D (.lst (acc ++ [y]))) else Nx H3) :=
  lcL (M := M0) (P := PD K f) gh src hD (by simp) hw hl growsD apart0 trivial (fun i x hi => by
    have hlt : i < f.length := by rw [hf]; exact (List.getElem?_eq_some_iff.mp hi).1
    exact lc_turnD (List.getElem?_eq_getElem hlt) (turn i x _ hi (List.getElem?_eq_getElem hlt))) (lc_doneD hf done)
theorem lcRD {lo : Int} {n : Nat} (f : List PyData) (hf : f.length = n) (gh : L2.Same G H) (hD : H D = none) (hw : ∀ x, wipe ((wipe σ vs).set j (some x)) vs = wipe σ vs) (hl : n < 1000000)
    (turn : ∀ (i : Nat) r, i < n → f[i]? = some r → LcTurnD K G H te ((wipe σ vs).set j (some (.int (lo + (i : Nat))))) r) (done : LcDoneD K G H D f Qd) :
    ∃ W : Nat → Nat → Hp → Prop, (∃ m, W 0 m (upd H D (.lst []))) ∧ ∀ i m H, W i m H →
      ((Itr lo n).stop i H ∧ Qd H) ∨ ((Itr lo n).go i H ∧ ∃ Nx : Hp → Prop, (∀ H', Nx H' → ∃ m', m' < m ∧ W (i + 1) m' H') ∧ ∀ x H', (Itr lo n).yld i H x H' → gName j x (wipe σ vs) H' fun σ2 H2 => wipe σ2 vs = wipe σ vs ∧ tYes σ2 H2 fun b H3 =>
        if b = true then te σ2 H3 fun y H4 => ∃ acc, H4 D = some (.lst acc) ∧ acc.length < sizeLine ∧ Nx (upd H4 D (.lst (acc ++ [y]))) else Nx H3) :=
  lcR (M := M0) (P := PD K f) gh hD (by simp) hw hl growsD apart0 trivial (fun i hi => by
    have hlt : i < f.length := by omega
    exact lc_turnD (List.getElem?_eq_getElem hlt) (turn i _ hi (List.getElem?_eq_getElem hlt))) (lc_doneD hf done)
end

/-! ### defs of the module by their promises -/
structure Def (P : Program) (w : World) (K : PySem.W.Frag) (mg : Str → Option Value) (base : Heap) (x : Str) (k : Nat) (ps : List Str) (sp : Sp) : Prop where
  ex : ∃ f fd, mg x = some (.ref f) ∧ PySem.W.keepIn K (.ref f) = true ∧ Binds K fd ps [] ∧ FnOk P w K mg base CX0 k f fd ps sp
section
variable {X : Cx} {x : Str} {p pos : Pos} {e : Expr} {es : List Expr} {t : TA} {k : Nat} {ps : List Str} {sp : Sp}
def tDef (sp : Sp) (t : TA) : TE := fun σ H Q => t σ H fun vs H1 => sp vs H1 Q E0
theorem pe_def (d : Def X.prog X.w X.K X.mg X.base x k ps sp) (hr : Room k X.A) (hg : Gl X x) (ha : PA X (e :: es) t) (hd : (x == ("__debug__" : Str)) = false := by decide)
    (he : starEach (e :: es) X.env = (false, eval e X.env) :: starEach es X.env := by rfl) (hpl : (backTo pos (starEach es X.env)).any (·.1) = false := by rfl) : PE X (.Call (.Name x p) (e :: es) [] pos) (tDef sp t) := by
  obtain ⟨f, fd, hm, hk, hb, F⟩ := d.ex
  refine ⟨fun pins s σ H Q I h => ?_⟩
  refine (pe_call F hr hg hm hk hb .nil pass0 ha hd he hpl).run pins s σ H Q I ?_
  show t σ H fun vs H1 => sp (vs ++ []) H1 Q E0
  simp only [List.append_nil]
  exact h
end
/-- a def that changes nothing that stands: Pre tells of the arguments (over what is known) which values may come (Post) -/
def pureSp (Pre : Hp → List V → (Hp → V → Prop) → Prop) : Sp := fun vs H Q _ => ∃ G Post, L2.Same G H ∧ Pre G vs Post ∧ ∀ v G' H', Ext [] G H G' H' → Post G' v → Q v H'

/-! ### rules whose reading names K, K told -/
section
variable (K : PySem.W.Frag) {X : Cx}
theorem ixT (h : X.K = K := by rfl) : IxR X (rIxT K) := by subst h; exact ix_tup
theorem ixL (h : X.K = K := by rfl) : IxR X (rIxL K) := by subst h; exact ix_list
def rIxA (K : PySem.W.Frag) : R2 := fun x y H Q => rIxT K x y H Q ∨ rIxL K x y H Q
theorem ixA (h : X.K = K := by rfl) : IxR X (rIxA K) := by
  subst h
  intro value slice pins s σ H x y v u Q I rx ry h hs
  rcases h with h | h
  · exact ix_tup value slice pins s σ H x y v u Q I rx ry h hs
  · exact ix_list value slice pins s σ H x y v u Q I rx ry h hs
theorem pf {f : Str} {e : Expr} {ta : TE} {pos : Pos} (he : PE X e ta) (hb : attributeBase e f X.env (eval e X.env) = eval e X.env := by rfl) (h : X.K = K := by rfl) : PE X (.Attribute e f pos) (tFld K ta f) := by subst h; exact pe_fld he hb
def rTupOf (K : PySem.W.Frag) : List V → Hp → VK → Prop := fun xs H Q => ∃ p ys, xs = [.ref p] ∧ ((SqL K H p ys ∧ ∀ l, H l = none → Q (.ref l) (upd H l (.tup ys))) ∨ (SqT K H p ys ∧ Q (.ref p) H))
theorem tupOf (h : X.K = K := by rfl) : CallR X (.type "tuple") (rTupOf K) := by subst h; exact call_tuple_of
def rLstOf (K : PySem.W.Frag) : List V → Hp → VK → Prop := fun xs H Q => ∃ p ys, xs = [.ref p] ∧ (SqL K H p ys ∨ SqT K H p ys) ∧ ∀ l, H l = none → Q (.ref l) (upd H l (.lst ys))
theorem lstOf (h : X.K = K := by rfl) : CallR X (.type "list") (rLstOf K) := by subst h; exact call_list_of
def rLenS (K : PySem.W.Frag) : List V → Hp → VK → Prop := fun xs H Q => ∃ p ys, xs = [.ref p] ∧ (SqL K H p ys ∨ SqT K H p ys) ∧ Q (.int ys.length) H
theorem lenS (h : X.K = K := by rfl) : CallR X (.builtin "len") (rLenS K) := by subst h; exact call_len_seq
theorem piT {tg l : Expr} {tl : TE} (hl : PE X l tl) (h : X.K = K := by rfl) : PI X tg l (iTup K tl) := by subst h; exact pi_tup hl
theorem piL {tg l : Expr} {tl : TE} (hl : PE X l tl) (h : X.K = K := by rfl) : PI X tg l (iList K tl) := by subst h; exact pi_list hl
theorem pgT {es : List Expr} {k : Nat} {t : TGs} {n : Nat} {pos : Pos} (h : PGs X es t) (hc : X.calm = true := by rfl)
    (hn : (assignEach es X.env).length = n := by rfl) (hst : (assignEach es X.env).findIdx? (·.1) = none := by rfl) (hk : X.K = K := by rfl) : PG X (.Tuple es k pos) (gTup K n t) := by subst hk; exact pg_tup hc h hn hst
theorem slL (h : X.K = K := by rfl) : SlR X (rSlL K) := by subst h; exact sl_list
theorem revL {e : Expr} {te : TE} {k : Nat} {p1 p2 p3 pos : Pos} (he : PE X e te) (h : X.K = K := by rfl) : PE X (.Subscript e (.Slice none none (some (.UnaryOp .USub (.Constant (.int 1) k p1) p2)) p3) pos) (tRevL K te) := by subst h; exact pe_revL he
theorem eqD (hu : X.A.units + 64 < cLine) (h : X.K = K := by rfl) : OpR X (compareOp .Eq) (rEqD K) := by subst h; exact op_eqD hu
theorem neD (hu : X.A.units + 64 < cLine) (h : X.K = K := by rfl) : OpR X (compareOp .NotEq) (rNeD K) := by subst h; exact op_neD hu
theorem minL (hc : X.calm = true := by rfl) (h : X.K = K := by rfl) : CallR X (.builtin "min") (rMin K) := by subst h; exact cr_min hc
theorem maxL (hc : X.calm = true := by rfl) (h : X.K = K := by rfl) : CallR X (.builtin "max") (rMax K) := by subst h; exact cr_max hc
theorem allL (hc : X.calm = true := by rfl) (h : X.K = K := by rfl) : CallR X (.builtin "all") (rAll K) := by subst h; exact cr_all hc
theorem piE {e : Expr} {ta : TA} {p pos tpos : Pos} {elts : List Expr} {kk : Nat} (hg : Gl X "enumerate") (hm : X.mg "enumerate" = none) (ha : PA X [e] ta) (hs : starEach [e] X.env = [(false, eval e X.env)] := by rfl) (h : X.K = K := by rfl) :
    PI X (.Tuple elts kk tpos) (.Call (.Name "enumerate" p) [e] [] pos) (iEnum K ta) := by subst h; exact pi_enum hg hm ha hs
theorem indexD (hu : X.A.units + 65 < cLine) (h : X.K = K := by rfl) : MtR X "list.index" (rIndexD K) := by subst h; exact mt_indexD hu
theorem inD (hu : X.A.units + 65 < cLine) (h : X.K = K := by rfl) : OpR X (compareOp .In) (rInD K) := by subst h; exact op_inD hu
theorem niD (hu : X.A.units + 65 < cLine) (h : X.K = K := by rfl) : OpR X (compareOp .NotIn) (rNotInD K) := by subst h; exact op_notInD hu
theorem inS (h : X.K = K := by rfl) : OpR X (compareOp .In) (rIn K false) := by subst h; exact op_in_seq
theorem niS (h : X.K = K := by rfl) : OpR X (compareOp .NotIn) (rIn K true) := by subst h; exact op_notIn_seq
theorem pbm {o e : Expr} {es : List Expr} {to : TE} {t : TA} {name : Str} {apos cpos : Pos} {T id : String} {r : V → List V → Hp → VK → Prop} (pa : PlainAttrs T) (slot : Slot T name id) (hty : typeOf (.builtin id) = pure (.type "method_descriptor")) (hm : MtR X id r) (ho : PE X o to) (ha : PA X (e :: es) t)
    (h : PE X (.Call (.Attribute o name apos) (e :: es) [] cpos) (tBM X.K T r to t)) (hk : X.K = K := by rfl) : PE X (.Call (.Attribute o name apos) (e :: es) [] cpos) (tBM K T r to t) := by subst hk; exact h
end
theorem tup_new {K : PySem.W.Frag} {G H : Hp} {p : Addr} {xs : List V} {ds : List PyData} (gh : L2.Same G H) (hp : H p = none) (h : DpAll K G xs ds) : Dp K (upd G p (.tup xs)) (.ref p) (.tuple ds) :=
  .tup (SqT.of upd_same) (dpA_up (fun b o hb => by rw [upd_ne (ne_of_none hb (gh.free hp))]; exact hb) h)
theorem same_new {G H : Hp} {p : Addr} {o : HO} (gh : L2.Same G H) (hp : H p = none) : L2.Same G (upd G p o) := fun b u hb => by rw [upd_ne (ne_of_none hb (gh.free hp))]; exact hb
/-- tuple(..) of a new list -/
theorem rd_tupOf {K : PySem.W.Frag} {G H : Hp} {v : V} {ds : List PyData} {Q : VK} (h : Ld K G v ds) (gh : L2.Same G H) (k : ∀ p G' H', Ext [] G H G' H' → Dp K G' (.ref p) (.tuple ds) → Q (.ref p) H') : rTupOf K [v] H Q := by
  obtain ⟨a, xs, rfl, h1, h2⟩ := h
  exact ⟨a, xs, rfl, .inl ⟨gh.seq (.of h1), fun p hp => k p _ _ ((Ext.refl gh).new hp) (tup_new gh hp h2)⟩⟩
end K78

/-! text N1 -/
set_option Elab.async false
set_option linter.all false
set_option maxRecDepth 100000
set_option maxHeartbeats 2000000
namespace K78
open PySem PySem.Spec PyProof.Rows L2

/-! ### data as keys -/
mutual
def toK : PyData → NestedKey
  | .int i => .num i
  | .tuple ds => .tup (toKs ds)
  | .none => .none
  | .bool _ => .none
  | .str _ => .none
  | .list _ => .none
  | .dict _ => .none
def toKs : List PyData → List NestedKey
  | [] => []
  | d :: ds => toK d :: toKs ds
end
mutual
def okK : PyData → Bool
  | .int _ => true
  | .tuple ds => okKs ds
  | .none => false
  | .bool _ => false
  | .str _ => false
  | .list _ => false
  | .dict _ => false
def okKs : List PyData → Bool
  | [] => true
  | d :: ds => okK d && okKs ds
end
theorem toKs_map (ds : List PyData) : toKs ds = ds.map toK := by
  induction ds with
  | nil => rfl
  | cons d r ih => rw [toKs, ih]; rfl
theorem okKs_all (ds : List PyData) : okKs ds = ds.all okK := by
  induction ds with
  | nil => rfl
  | cons d r ih => rw [okKs, ih]; rfl
mutual
theorem toK_inj : ∀ d e : PyData, okK d = true → okK e = true → toK d = toK e → d = e
  | .int i, .int j, _, _, h => by simp [toK] at h; rw [h]
  | .tuple ds, .tuple es, h1, h2, h => by
    simp only [toK, NestedKey.tup.injEq] at h
    rw [toKs_inj ds es (by simpa [okK] using h1) (by simpa [okK] using h2) h]
  | .int _, .tuple _, _, _, h => by simp [toK] at h
  | .tuple _, .int _, _, _, h => by simp [toK] at h
  | .int _, .none, _, h, _ => by simp [okK] at h
  | .int _, .bool _, _, h, _ => by simp [okK] at h
  | .int _, .str _, _, h, _ => by simp [okK] at h
  | .int _, .list _, _, h, _ => by simp [okK] at h
  | .int _, .dict _, _, h, _ => by simp [okK] at h
  | .tuple _, .none, _, h, _ => by simp [okK] at h
  | .tuple _, .bool _, _, h, _ => by simp [okK] at h
  | .tuple _, .str _, _, h, _ => by simp [okK] at h
  | .tuple _, .list _, _, h, _ => by simp [okK] at h
  | .tuple _, .dict _, _, h, _ => by simp [okK] at h
  | .none, _, h, _, _ => by simp [okK] at h
  | .bool _, _, h, _, _ => by simp [okK] at h
  | .str _, _, h, _, _ => by simp [okK] at h
  | .list _, _, h, _, _ => by simp [okK] at h
  | .dict _, _, h, _, _ => by simp [okK] at h
theorem toKs_inj : ∀ ds es : List PyData, okKs ds = true → okKs es = true → toKs ds = toKs es → ds = es
  | [], [], _, _, _ => rfl
  | [], _ :: _, _, _, h => by simp [toKs] at h
  | _ :: _, [], _, _, h => by simp [toKs] at h
  | d :: ds, e :: es, h1, h2, h => by
    simp only [toKs, List.cons.injEq] at h
    simp only [okKs, Bool.and_eq_true] at h1 h2
    rw [toK_inj d e h1.1 h2.1 h.1, toKs_inj ds es h1.2 h2.2 h.2]
end
mutual
theorem reads_key {h : Heap} : ∀ (d : PyData) (u : Value) (as : List Addr), okK d = true → Reads h u d as → NestedIs h (toK d) u
  | .int i, _, _, _, r => by cases r; exact .int i _
  | .tuple ds, _, _, hk, r => by
    cases r with
    | tuple h1 h2 h3 h4 => exact .tup h1 h2 h3 (reads_keys ds _ _ (by simpa [okK] using hk) h4)
  | .none, _, _, hk, _ => by simp [okK] at hk
  | .bool _, _, _, hk, _ => by simp [okK] at hk
  | .str _, _, _, hk, _ => by simp [okK] at hk
  | .list _, _, _, hk, _ => by simp [okK] at hk
  | .dict _, _, _, hk, _ => by simp [okK] at hk
theorem reads_keys {h : Heap} : ∀ (ds : List PyData) (us : List Value) (as : List Addr), okKs ds = true → ReadsAll h us ds as → NestedAll h (toKs ds) us
  | [], _, _, _, r => by cases r; exact .nil
  | d :: ds, _, _, hk, r => by
    simp only [okKs, Bool.and_eq_true] at hk
    cases r with
    | cons h1 h2 => exact .cons (reads_key d _ _ hk.1 h1) (reads_keys ds _ _ hk.2 h2)
end
/-- the value is a key of a dict -/
structure Kd (K : PySem.W.Frag) (G : Hp) (v : V) (k : NestedKey) : Prop where
  ex : ∃ d ds, Dp K G v d ∧ d = .tuple ds ∧ okK d = true ∧ toK d = k
  dep : k.depth ≤ 8
theorem kd_up {K : PySem.W.Frag} {G H : Hp} {v : V} {k : NestedKey} (e : L2.Same G H) (h : Kd K G v k) : Kd K H v k := by
  obtain ⟨⟨d, ds, h1, h2⟩, h3⟩ := h
  exact ⟨⟨d, ds, dp_up e h1, h2⟩, h3⟩
theorem kd_ref {K : PySem.W.Frag} {G : Hp} {v : V} {k : NestedKey} (h : Kd K G v k) : ∃ a, v = .ref a := by
  obtain ⟨⟨d, ds, h1, rfl, _⟩, _⟩ := h
  obtain ⟨a, _, rfl, _⟩ := dp_tuple h1
  exact ⟨a, rfl⟩
theorem kd_is {X : Cx} {pins : List (Addr × Obj)} {σ : L2.St} {H G : Hp} {s : Shared} {a : Addr} {k : NestedKey} (I : Inv X pins σ H s) (gh : L2.Same G H) (h : Kd X.K G (.ref a) k) : (nestedKind X.prog X.w).is s.heap k a := by
  obtain ⟨⟨d, ds, h1, rfl, h2, rfl⟩, h3⟩ := h
  obtain ⟨as, r⟩ := Dp.reads I _ _ _ (dp_up gh h1) (rfl : RelV (.ref a) (.ref a))
  exact ⟨reads_key _ _ _ h2 r, h3⟩

/-! ### dicts with such keys -/
abbrev RX : List (NestedKey × Addr × V) → List (NestedKey × Addr × Value) → Prop := Paired fun p q => p.1 = q.1 ∧ p.2.1 = q.2.1 ∧ RelV p.2.2 q.2.2
def DNf (P : Program) (w : World) (a : Addr) (xs : List (NestedKey × Addr × V)) (h : Heap) : Prop :=
  (a == sysModules) = false ∧ ∃ ys, RX xs ys ∧ ∃ o es ep, h.get? a = some o ∧ o.ExactDict ∧ o.data = .dict es ep ∧ es.toList = ys.map (entryOfKey (nestedKind P w)) ∧ (ys.map (·.1)).Nodup
def DN (P : Program) (w : World) (a : Addr) (xs : List (NestedKey × Addr × V)) : HO := .ext (DNf P w a xs)
theorem dn_ok {P : Program} {w : World} {H : Hp} {h : Heap} {a : Addr} {xs : List (NestedKey × Addr × V)} (f : DNf P w a xs h) : ObjOk P w H h a (DN P w a xs) := by
  obtain ⟨h0, ys, r, o, es, ep, h1, h2⟩ := f
  exact ⟨⟨h0, ys, r, o, es, ep, h1, h2⟩, ⟨o, h1⟩, fun g1 g2 ⟨e0, zs, q, o', es', ep', e1, e2⟩ k => ⟨e0, zs, q, o', es', ep', k _ e1, e2⟩⟩
/-- at a stands a dict; its keys are known -/
structure DAt (P : Program) (w : World) (K : PySem.W.Frag) (G H : Hp) (a : Addr) (kvs : List (NestedKey × V)) : Prop where
  ex : ∃ xs, H a = some (DN P w a xs) ∧ xs.map (fun p => (p.1, p.2.2)) = kvs ∧ ∀ p ∈ xs, Kd K G (.ref p.2.1) p.1
theorem dat_up {P : Program} {w : World} {K : PySem.W.Frag} {G H G' H' : Hp} {a : Addr} {kvs : List (NestedKey × V)} (D : DAt P w K G H a kvs) (e : L2.Same G G') (h : H' a = H a) : DAt P w K G' H' a kvs := by
  obtain ⟨xs, h1, h2, h3⟩ := D.ex
  exact ⟨xs, by rw [h, h1], h2, fun p hp => kd_up e (h3 p hp)⟩
theorem dat_some {P : Program} {w : World} {K : PySem.W.Frag} {G H : Hp} {a : Addr} {kvs : List (NestedKey × V)} (D : DAt P w K G H a kvs) : ∃ o, H a = some o := by
  obtain ⟨xs, h1, _⟩ := D.ex
  exact ⟨_, h1⟩
def putX (xs : List (NestedKey × Addr × V)) (k : NestedKey) (b : Addr) (v : V) : List (NestedKey × Addr × V) :=
  if (xs.any fun p => decide (p.1 = k)) = true then xs.map (fun p => if p.1 = k then (p.1, p.2.1, v) else p) else xs ++ [(k, b, v)]
section
variable {xs : List (NestedKey × Addr × V)} {ys : List (NestedKey × Addr × Value)} {k : NestedKey} {b : Addr} {v : V} {u : Value}
theorem rx_any (r : RX xs ys) (k : NestedKey) : (xs.any fun p => decide (p.1 = k)) = (atKey ys k).isSome := by
  induction r with
  | nil => rfl
  | @cons p q ps qs h t ih =>
    rw [List.any_cons, ih]
    by_cases e : q.1 = k
    · simp [atKey, List.find?_cons, h.1, e]
    · simp [atKey, List.find?_cons, h.1, e]
theorem rx_val (r : RX xs ys) (k : NestedKey) : RelO (valV (xs.map fun p => (p.1, p.2.2)) k) ((atKey ys k).map (·.2)) := by
  induction r with
  | nil => exact True.intro
  | @cons p q ps qs h t ih =>
    rw [List.map_cons]
    by_cases e : q.1 = k
    · have e' : p.1 = k := h.1.trans e
      have z : atKey (q :: qs) k = some q.2 := by simp [atKey, List.find?_cons, e]
      rw [valV_pos (p := (p.1, p.2.2)) e', z]; exact h.2.2
    · have e' : ¬ p.1 = k := fun z => e (h.1.symm.trans z)
      have z : atKey (q :: qs) k = atKey qs k := by simp [atKey, List.find?_cons, e]
      rw [valV_neg (p := (p.1, p.2.2)) e', z]; exact ih
theorem rx_put (r : RX xs ys) (rv : RelV v u) : RX (putX xs k b v) (storedH ys k b u) := by
  unfold putX storedH
  rw [rx_any r k]
  by_cases e : (atKey ys k).isSome = true
  · rw [if_pos e, if_pos e]
    induction r with
    | nil => exact .nil
    | @cons p q ps qs h t ih =>
      have hm : ∀ {ps : List (NestedKey × Addr × V)} {qs : List (NestedKey × Addr × Value)}, RX ps qs → RX (ps.map (fun p => if p.1 = k then (p.1, p.2.1, v) else p)) (qs.map (putAt k u)) := by
        intro ps qs t
        induction t with
        | nil => exact .nil
        | @cons p q ps qs h t ih =>
          refine .cons ?_ ih
          unfold putAt
          dsimp only
          by_cases z : q.1 = k
          · rw [if_pos (h.1.trans z), if_pos z]; exact ⟨h.1, h.2.1, rv⟩
          · rw [if_neg (fun y => z (h.1.symm.trans y)), if_neg z]; exact h
      exact hm (.cons h t)
  · rw [if_neg e, if_neg e]
    exact Paired.snoc r ⟨rfl, rfl, rv⟩
theorem putX_map : (putX xs k b v).map (fun p => (p.1, p.2.2)) = putK (xs.map fun p => (p.1, p.2.2)) k v := by
  unfold putX putK
  have e : ((xs.map fun p => (p.1, p.2.2)).any fun kv => decide (kv.1 = k)) = (xs.any fun p => decide (p.1 = k)) := by rw [List.any_map]; rfl
  rw [e]
  split
  · rw [List.map_map, List.map_map]
    refine List.map_congr_left fun p _ => ?_
    by_cases z : p.1 = k <;> simp [z]
  · simp
theorem putX_mem {p : NestedKey × Addr × V} (h : p ∈ putX xs k b v) : (∃ q ∈ xs, p.1 = q.1 ∧ p.2.1 = q.2.1) ∨ (p.1 = k ∧ p.2.1 = b) := by
  unfold putX at h
  split at h
  · obtain ⟨q, hq, e⟩ := List.mem_map.mp h
    refine .inl ⟨q, hq, ?_⟩
    by_cases z : q.1 = k
    · rw [if_pos z] at e; rw [← e]; exact ⟨rfl, rfl⟩
    · rw [if_neg z] at e; rw [← e]; exact ⟨rfl, rfl⟩
  · rcases List.mem_append.mp h with h | h
    · exact .inl ⟨p, h, rfl, rfl⟩
    · simp at h; rw [h]; exact .inr ⟨rfl, rfl⟩
end
section
variable {X : Cx} {pins : List (Addr × Obj)} {σ : L2.St} {H G : Hp} {s : Shared} {a : Addr} {kvs : List (NestedKey × V)} {k : NestedKey} {x v : V} {A : Around} {E : Value → Shared → Prop}
theorem dn_of {xs : List (NestedKey × Addr × V)} (I : Inv X pins σ H s) (gh : L2.Same G H) (h1 : H a = some (DN X.prog X.w a xs)) (h3 : ∀ p ∈ xs, Kd X.K G (.ref p.2.1) p.1) :
    (a == sysModules) = false ∧ ∃ ys, RX xs ys ∧ s.heap.DictOfH (nestedKind X.prog X.w) a ys := by
  obtain ⟨⟨h0, ys, r, o, es, ep, e1, e2, e3, e4, e5⟩, _⟩ := I.hok a _ h1
  refine ⟨h0, ys, r, o, es, ep, e1, e2, e3, e4, fun y hy => ?_, e5⟩
  have all : ∀ {l : List (NestedKey × Addr × V)} {m : List (NestedKey × Addr × Value)}, RX l m → ∀ y ∈ m, ∃ p ∈ l, p.1 = y.1 ∧ p.2.1 = y.2.1 := by
    intro l m q
    induction q with
    | nil => intro y hy; cases hy
    | @cons p q ps qs hq t ih =>
      intro y hy
      rcases List.mem_cons.mp hy with e | hy
      · exact ⟨p, List.mem_cons_self, by rw [e]; exact hq.1, by rw [e]; exact hq.2.1⟩
      · obtain ⟨p', m', e'⟩ := ih y hy
        exact ⟨p', List.mem_cons_of_mem _ m', e'⟩
  obtain ⟨p, hp, e, e'⟩ := all r y hy
  rw [← e, ← e']
  exact kd_is I gh (h3 p hp)
theorem room_n (hu : A.units + 9 < cLine) : (nestedKind X.prog X.w).room A.in1 := by
  show A.units + 1 + 8 < cLine
  omega
/-- d[y], there; y in d; y not in d; d[y] = v -/
theorem n_get {u : Value} {Q : Value → Shared → Prop} (hu : A.units + 9 < cLine) (I : Inv X pins σ H s) (gh : L2.Same G H) (D : DAt X.prog X.w X.K G H a kvs) (hk : Kd X.K G x k) (rx : RelV x u) (hv : valV kvs k = some v)
    (h : ∀ w' s', Inv X pins σ H s' → RelV v w' → Q w' s') : wpAny (model X.prog X.w) A (getItem (.ref a) u) Q E s := by
  obtain ⟨xs, h1, rfl, h3⟩ := D.ex
  obtain ⟨h0, ys, r, dd⟩ := dn_of I gh h1 h3
  obtain ⟨b, rfl⟩ := kd_ref hk
  cases rx
  have q := rx_val r k
  rw [hv] at q
  obtain ⟨w', hw, rw'⟩ := RelO.some_of (v := v) (o := (atKey ys k).map (·.2)) q
  obtain ⟨p, hp, hp2⟩ := Option.map_eq_some_iff.mp hw
  refine wpAny_getItem_heap (room_n hu) (kd_is I gh hk) dd hp ?_
  rw [hp2]
  exact h w' _ (I.tok _) rw'
theorem n_in {u : Value} {Q : Value → Shared → Prop} (hu : A.units + 9 < cLine) (I : Inv X pins σ H s) (gh : L2.Same G H) (D : DAt X.prog X.w X.K G H a kvs) (hk : Kd X.K G x k) (rx : RelV x u)
    (h : ∀ s', Inv X pins σ H s' → Q (.bool (valV kvs k).isSome) s') : wpAny (model X.prog X.w) A (compareOp .In u (.ref a)) Q E s := by
  obtain ⟨xs, h1, rfl, h3⟩ := D.ex
  obtain ⟨h0, ys, r, dd⟩ := dn_of I gh h1 h3
  obtain ⟨b, rfl⟩ := kd_ref hk
  cases rx
  refine wpAny_in_heap (room_n hu) (kd_is I gh hk) h0 dd ?_
  have q := (rx_val r k).isSome_eq
  rw [Option.isSome_map] at q
  rw [← q]
  exact h _ (I.tok _)
theorem n_notIn {u : Value} {Q : Value → Shared → Prop} (hu : A.units + 9 < cLine) (I : Inv X pins σ H s) (gh : L2.Same G H) (D : DAt X.prog X.w X.K G H a kvs) (hk : Kd X.K G x k) (rx : RelV x u)
    (h : ∀ s', Inv X pins σ H s' → Q (.bool (!(valV kvs k).isSome)) s') : wpAny (model X.prog X.w) A (compareOp .NotIn u (.ref a)) Q E s := by
  obtain ⟨xs, h1, rfl, h3⟩ := D.ex
  obtain ⟨h0, ys, r, dd⟩ := dn_of I gh h1 h3
  obtain ⟨b, rfl⟩ := kd_ref hk
  cases rx
  refine wpAny_notIn_heap (room_n hu) (kd_is I gh hk) h0 dd ?_
  have q := (rx_val r k).isSome_eq
  rw [Option.isSome_map] at q
  rw [← q]
  exact h _ (I.tok _)
theorem n_put_inv {xs : List (NestedKey × Addr × V)} {ys : List (NestedKey × Addr × Value)} {b : Addr} {r : Value} {h' : Heap} {t' : Nat} (I : Inv X pins σ H s) (gh : L2.Same G H) (h1 : H a = some (DN X.prog X.w a xs)) (h0 : (a == sysModules) = false) (rr : RX xs ys) (h3 : ∀ p ∈ xs, Kd X.K G (.ref p.2.1) p.1) (hk : Kd X.K G (.ref b) k) (rv : RelV v r)
    (dd : h'.DictOfH (nestedKind X.prog X.w) a (storedH ys k b r)) (sb : Heap.SameBut a s.heap h') (hg : G a = none) :
    Inv X pins σ (upd H a (DN X.prog X.w a (putX xs k b v))) { s with heap := h', toks := t' } ∧ DAt X.prog X.w X.K G (upd H a (DN X.prog X.w a (putX xs k b v))) a (putK (xs.map fun p => (p.1, p.2.2)) k v) := by
  obtain ⟨o, es, ep, e1, e2, e3, e4, _, e5⟩ := dd
  refine ⟨d_write I (by rw [h1]; exact True.intro) sb ⟨o, e1⟩ (dn_ok ⟨h0, _, rx_put rr rv, o, es, ep, e1, e2, e3, e4, e5⟩), ⟨_, upd_same, putX_map, fun p hp => ?_⟩⟩
  rcases putX_mem hp with ⟨q, hq, z1, z2⟩ | ⟨z1, z2⟩
  · rw [z1, z2]; exact h3 q hq
  · rw [z1, z2]; exact hk
theorem rx_len : ∀ {xs : List (NestedKey × Addr × V)} {ys : List (NestedKey × Addr × Value)}, RX xs ys → xs.length = ys.length := fun r => Paired.length r
theorem n_set {u r : Value} {Q : Unit → Shared → Prop} (hu : A.units + 9 < cLine) (I : Inv X pins σ H s) (gh : L2.Same G H) (hg : G a = none) (D : DAt X.prog X.w X.K G H a kvs) (hk : Kd X.K G x k) (rx : RelV x u) (rv : RelV v r) (hl : kvs.length < sizeLine)
    (h : ∀ o s', DAt X.prog X.w X.K G (upd H a o) a (putK kvs k v) → Inv X pins σ (upd H a o) s' → Q () s') : wpAny (model X.prog X.w) A (setItem (.ref a) u r) Q E s := by
  obtain ⟨xs, h1, rfl, h3⟩ := D.ex
  obtain ⟨h0, ys, rr, dd⟩ := dn_of I gh h1 h3
  obtain ⟨b, rfl⟩ := kd_ref hk
  cases rx
  refine wpAny_setItem_heap (hsz := by rw [← rx_len rr]; simpa using Nat.le_of_lt hl) (room_n hu) (kd_is I gh hk) dd fun h' dd' sb => ?_
  obtain ⟨I', D'⟩ := n_put_inv (t' := s.toks + (nestedKind X.prog X.w).draws k) I gh h1 h0 rr h3 hk rv dd' sb hg
  exact h _ _ D' I'
theorem n_setd {u r : Value} {Q : Value → Shared → Prop} (hu : A.units + 9 < cLine) (I : Inv X pins σ H s) (gh : L2.Same G H) (hg : G a = none) (D : DAt X.prog X.w X.K G H a kvs) (hk : Kd X.K G x k) (rx : RelV x u) (rv : RelV v r) (hl : kvs.length < sizeLine)
    (h1 : ∀ y w' s', valV kvs k = some y → Inv X pins σ H s' → RelV y w' → Q w' s')
    (h2 : valV kvs k = none → ∀ o s', DAt X.prog X.w X.K G (upd H a o) a (putK kvs k v) → Inv X pins σ (upd H a o) s' → Q r s') : wpAny (model X.prog X.w) A (call (.builtin "dict.setdefault") [.ref a, u, r]) Q E s := by
  obtain ⟨xs, e1, rfl, e3⟩ := D.ex
  obtain ⟨h0, ys, rr, dd⟩ := dn_of I gh e1 e3
  obtain ⟨b, rfl⟩ := kd_ref hk
  cases rx
  have q := rx_val rr k
  refine call_setdefault_heap (hsz := by rw [← rx_len rr]; simpa using Nat.le_of_lt hl) (room_n hu) (kd_is I gh hk) h0 dd (fun p hp => ?_) fun hn h' dd' sb => ?_
  · rw [hp, Option.map_some] at q
    cases z : valV (xs.map fun p => (p.1, p.2.2)) k with
    | none => rw [z] at q; exact (show False from q).elim
    | some y => rw [z] at q; exact h1 y _ _ z (I.tok _) q
  · rw [hn, Option.map_none] at q
    cases z : valV (xs.map fun p => (p.1, p.2.2)) k with
    | some y => rw [z] at q; exact (show False from q).elim
    | none =>
      obtain ⟨I', D'⟩ := n_put_inv (t' := s.toks + (nestedKind X.prog X.w).draws k) I gh e1 h0 rr e3 hk rv dd' sb hg
      exact h2 z _ _ D' I'
end
end K78

/-! text N2 -/
set_option Elab.async false
set_option linter.all false
set_option maxRecDepth 100000
set_option maxHeartbeats 2000000
namespace K78
open PySem PySem.Spec PyProof.Rows L2

/-! ### a comprehension's block: its loops, whatever it fills -/
section
variable {Y : Cx} {tg : Expr} {ifs : List Expr} {J : It} {fp : List Addr} {it : Addr} {tn : Nat → Heap → Prop} {pins : List (Addr × Obj)} {σ0 : L2.St} {vs : List Nat} {W : Nat → Nat → Hp → Prop} {Qs : Hp → Prop} {g : TG} {tt : TT} {tem : L2.St → Hp → (Hp → Prop) → Prop}
/-- what the loop keeps -/
def Lp (Y : Cx) (tn : Nat → Heap → Prop) (fp : List Addr) (pins : List (Addr × Obj)) (σ1 : L2.St) (W : Nat → Nat → Hp → Prop) (n : Nat) (s : Shared) : Prop :=
  ∃ i H', Inv Y pins σ1 H' s ∧ tn i s.heap ∧ (∀ b ∈ fp, H' b = none) ∧ W i n H'
theorem blk_turn (T : Turn Y.prog Y.w Y.K tg J fp it tn) (hc : Y.calm = true) (hx : Y.xe = fun _ _ => False) (hf : ∀ b ∈ fp, ∀ H' : Hp, H' b = none → FpOk Y pins H' b)
    (turn : ∀ i m H, W i m H → (J.stop i H ∧ Qs H) ∨ (J.go i H ∧ ∃ Nx : Hp → Prop, (∀ H', Nx H' → ∃ m', m' < m ∧ W (i + 1) m' H') ∧ ∀ x H', J.yld i H x H' → g x (wipe σ0 vs) H' fun σ2 H2 => wipe σ2 vs = wipe σ0 vs ∧ tt σ2 H2 fun b H3 =>
      if b = true then tem σ2 H3 Nx else Nx H3))
    (pg : PG Y tg g) (pt : PTs Y ifs tt) (emitW : Shared → (Shared → Prop) → Prop)
    (hem : ∀ (pins' : List (Addr × Obj)) (σ2 : L2.St) (H : Hp) (s : Shared) (Nx : Hp → Prop) (post : Shared → Prop), Inv Y (pins ++ pins') σ2 H s → tem σ2 H Nx →
      (∀ s' H' σ9, Inv Y (pins ++ pins') σ9 H' s' → σ9.length = σ2.length → (∀ (j : Nat) v, (wipe σ2 vs)[j]? = some (some v) → σ9[j]? = some (some v)) → Nx H' → post s') → emitW s post)
    (n : Nat) (s : Shared) (E : Value → Shared → Prop) (h : Lp Y tn fp pins (wipe σ0 vs) W n s) :
    wpAny (model Y.prog Y.w) Y.A (pyNext (.ref it)) (fun r s₁ => match r with
      | none => ∃ H', Inv Y pins (wipe σ0 vs) H' s₁ ∧ Qs H'
      | some v => wpAny (model Y.prog Y.w) Y.A (letOwnedTupleGo tg (.ref it) v) (fun _ s₁' => wpAny (model Y.prog Y.w) Y.A (assign tg Y.env v) (fun _ s₂ =>
          wpAny (model Y.prog Y.w) Y.A (forIn ifs true fun c r => if r = true then do let ok ← isTrue c Y.env (eval c Y.env); pure (ForInStep.yield ok) else pure (ForInStep.yield r)) (fun ok s₃ =>
            if ok = true then emitW s₃ (fun s' => ∃ m, m < n ∧ Lp Y tn fp pins (wipe σ0 vs) W m s') else ∃ m, m < n ∧ Lp Y tn fp pins (wipe σ0 vs) W m s₃) E s₂) E s₁') E s₁) E s := by
  obtain ⟨i, H5, I5, st5, n5, w5⟩ := h
  have stat : ∀ {H' : Hp}, (∀ b ∈ fp, H' b = none) → ∀ b ∈ fp, FpOk Y pins H' b := fun hn b hb => hf b hb _ (hn b hb)
  rcases turn i n H5 w5 with ⟨stop, qq⟩ | ⟨go, Nx, hNx, step⟩
  · refine thn (T.done Y rfl rfl rfl hc i pins s _ H5 E I5 (stat n5) st5 stop) fun r s6 ⟨hr, I6⟩ => ?_
    subst hr
    exact ⟨H5, I6, qq⟩
  · refine thn (T.item Y rfl rfl rfl hc i pins s _ H5 E I5 (stat n5) st5 go) fun r s6 ⟨u, hr, h6⟩ => ?_
    subst hr
    refine thn h6 fun _ s7 ⟨x, H7, I7, r7, y7, st7, n7⟩ => ?_
    have I7' := I7.pinned (stat n7) (T.obj _ _ st7)
    have e1 := pg.run _ s7 _ H7 x u _ I7' r7 (step x H7 y7)
    rw [hx] at e1
    refine thnF e1 fun _ s8 ⟨σ8, H8, I8, hw8, q8⟩ => ?_
    have e2 := pt.run _ s8 σ8 H8 _ I8 q8
    rw [hx] at e2
    refine thnF e2 fun b s9 ⟨H9, I9, q9⟩ => ?_
    have fin : ∀ {s' : Shared} {H' : Hp} {σ9 : L2.St}, Inv Y (pins ++ pinsAt fp s7.heap) σ9 H' s' → σ9.length = σ8.length → (∀ (j : Nat) v, (wipe σ8 vs)[j]? = some (some v) → σ9[j]? = some (some v)) → Nx H' → ∃ m, m < n ∧ Lp Y tn fp pins (wipe σ0 vs) W m s' := fun {s' H' σ9} I' hl9 hk9 nx => by
      obtain ⟨m', hm, w'⟩ := hNx H' nx
      have pin' : ∀ b ∈ fp, ∀ o, s7.heap.get? b = some o → s'.heap.get? b = some o ∧ H' b = none := fun b hb o e =>
        let z := I'.pin (b, o) (List.mem_append_right _ (List.mem_append_right _ (mem_pinsAt hb e)))
        ⟨z.1, z.2.1⟩
      have hl : (wipe σ0 vs).length = σ9.length := by rw [← hw8, wipe_length, hl9]
      refine ⟨m', hm, i + 1, H', I'.unpinned.weak hl (fun j v e => ?_), T.keep _ _ _ st7 fun b hb o e => (pin' b hb o e).1, fun b hb => ?_, w'⟩
      · rw [← hw8] at e
        exact hk9 j v e
      · obtain ⟨o, e, _⟩ := T.obj _ _ st7 b hb
        exact (pin' b hb o e).2
    cases b with
    | false =>
      simp only [Bool.false_eq_true, if_false] at q9 ⊢
      exact fin I9 rfl (fun j v e => (wipe_some e).1) q9
    | true =>
      simp only [if_true] at q9 ⊢
      exact hem _ _ _ _ _ _ I9 q9 fun s' H' σ9 I' a b nx => fin I' a b nx
end

/-- into the block and out of it: oA the new object that it fills -/
theorem comp_enter {X : Cx} {pins : List (Addr × Obj)} {s : Shared} {σ : L2.St} {H : Hp} {Q : VK} {cexp tg iter : Expr} {ifs : List Expr} {gs : List Comprehension} {scope : Scope} {own : List (Str × Nat)} {pos' : Pos} {wi : TI} {newAcc : Sem Value} {oA : Obj} {acc0 : Addr → HO} {L : It → Addr → Hp → Prop}
    (hN : X.N.Nodup) (I : Inv X pins σ H s) (hi : PI X tg iter wi) (ok : BlkOk X.N X.env.scope scope own) (hcl : clausesOf cexp = ⟨tg, iter, ifs, 0⟩ :: gs) (hs : ∀ x, foldedSetIterable iter X.env x = pure x)
    (hnew : ∀ (s : Shared) (Q : Value → Shared → Prop) (E : Value → Shared → Prop), Q (.ref s.heap.objs.size) { s with heap := s.heap.push oA } → wpAny (model X.prog X.w) X.A newAcc Q E s)
    (hacc : ∀ (H : Hp) (h : Heap), sysModules < h.objs.size → ObjOk X.prog X.w H (h.push oA) h.objs.size (acc0 h.objs.size))
    (h : wi σ H fun J H1 => ∀ D, H1 D = none → L J D (upd H1 D (acc0 D)))
    (hloop : ∀ (s3 : Shared) (H3 : Hp) (C : Addr) (cl : List (Str × Addr)) (fp : List Addr) (it D : Addr) (tn : Nat → Heap → Prop) (J : It) (s4 : Shared) (R : Result → Shared → Prop),
      Inv (X.blk s3 H3 scope (compEnvC scope cl C X.env) fp) [] (wipe σ (own.map (·.2))) H3 s4 → Turn X.prog X.w X.K tg J fp it tn → tn 0 s4.heap → (∀ b ∈ fp, ∀ H' : Hp, H' b = none → FpOk (X.blk s3 H3 scope (compEnvC scope cl C X.env) fp) [] H' b) → (∀ b ∈ fp, H3 b = none) → L J D H3 →
      (∀ s6 H5, Inv (X.blk s3 H3 scope (compEnvC scope cl C X.env) fp) [] (wipe σ (own.map (·.2))) H5 s6 → Q (.ref D) H5 → R (.ok .next) s6) →
      codeAny (model X.prog X.w) X.A (.compStart cexp 0 (.ref it) (.ref D) (compEnvC scope cl C X.env)) R s4) :
    wpAny (model X.prog X.w) X.A (comprehension cexp scope X.env pos' newAcc false (eval iter X.env)) (EP X pins σ Q) X.xe s := by
  have hfree : ∀ y ∈ scope.names, y.2 = .free → ∃ c, X.env.cells.lookup y.1 = some c := fun y hy e => by
    rcases ok.free y hy e with k | k
    · exact I.ok.has _ (.inl k)
    · exact I.ok.has _ (.inr k)
  refine wpAny_comprehension_free (use := none) hcl hs (closure_ok hfree) ok.kind (fun y hy e => by rw [ok.uniq y hy, e])
    (thn (hi.run pins s σ H _ I h) fun xv s1 hx => thn hx fun itv s2 h2 => ?_)
  obtain ⟨it, fp, tn, J, H2, e, I2, T, st2, f2, q⟩ := h2
  subst e
  refine hnew _ _ _ (newEnv_comp ?_)
  generalize hD : s2.heap.objs.size = D
  have hDn : H2 D = none := I2.hok.fresh (Nat.le_of_eq hD)
  have lq := q D hDn
  generalize hs3 : ({ s2 with heap := s2.heap.push oA } : Shared) = s3
  have I3 : Inv X pins σ (upd H2 D (acc0 D)) s3 := by
    rw [← hs3]
    refine I2.laid (t' := s2.toks) (fun b o e => Heap.get?_push_of_some _ e) (Nat.le_of_eq hD) ?_
    rw [← hD]
    exact hacc _ _ I2.big
  have h3 : s3.heap = s2.heap.push oA := by rw [← hs3]
  have f3 : ∀ b ∈ fp, FpOk X pins (upd H2 D (acc0 D)) b ∧ b < s3.heap.objs.size := fun b hb => by
    obtain ⟨o, e, _⟩ := T.obj _ _ st2 b hb
    have hlt := Heap.lt_size e
    refine ⟨⟨?_, (f2 b hb).2⟩, by rw [h3, Heap.size_push]; exact Nat.lt_succ_of_lt hlt⟩
    rw [upd_ne (by rw [← hD]; exact Nat.ne_of_lt hlt)]
    exact (f2 b hb).1
  have st3 : tn 0 s3.heap := T.keep _ _ _ st2 fun b _ o e => by rw [h3]; exact Heap.get?_push_of_some _ e
  have I4 := block_start I3 ok hN f3
  generalize hH3 : upd H2 D (acc0 D) = H3 at I3 I4 f3 lq
  have st4 : tn 0 (pushCells (s3.heap.push { cls := .type "dict", data := .dict #[] }) scope.names) := T.keep _ _ _ st3 fun b _ o e => pushCells_keeps _ _ _ _ (Heap.get?_push_of_some _ e)
  refine hloop s3 H3 _ _ fp it D tn J { s3 with heap := pushCells (s3.heap.push { cls := .type "dict", data := .dict #[] }) scope.names } _ I4 T st4 (fun b hb H' hn => ?_) (fun b hb => (f3 b hb).1.1) lq fun s6 H5 I6 qq => ?_
  · exact ⟨hn, (I4.ok.exf b hb).1, I4.ok.exfs b hb, .inl hb, fun x c e => (I4.ok.exf b hb).2 x c e, fun p hp => absurd (show p ∈ ([] : List (Addr × Obj)) ++ [] from hp) (by simp)⟩
  · have I7 : Inv X pins σ H5 s6 := I3.call' (ch := fp) I6.os I6.base I6.hok I6.bare fun b hb => ⟨(f3 b hb).1.2.2.2.1, (f3 b hb).1.2.1, (f3 b hb).1.2.2.2.2.1, (f3 b hb).1.2.2.2.2.2⟩
    have nC : H5 s3.heap.objs.size = none := I6.free
    obtain ⟨m, hn, _⟩ := I6.loc
    have hn : s6.heap.Ns s3.heap.objs.size m := hn
    obtain ⟨f0, f1, f2, f3', f4, f5⟩ := I3.fpOk (Nat.le_refl _) nC
    exact ⟨m, hn, fun h'' sb => ⟨.ref D, H5, I7.turned (t' := s6.toks) (fun b o hb e => (sb.2 b hb).trans e) f0 f1 f3' f4 f5, rfl, qq⟩⟩
end K78

/-! text N3 -/
set_option Elab.async false
set_option linter.all false
set_option maxRecDepth 100000
set_option maxHeartbeats 2000000
namespace K78
open PySem PySem.Spec PyProof.Rows L2

/-! ### {elt for .. in ..}: the items are tuples of ints -/
section
variable {P : Program} {w : World} {A : Around} {E : Value → Shared → Prop} {s : Shared} {a x : Addr} {k : List Int} {L : List (Addr × List Int)} {es : Array (Int × Value)} {ep : Nat} {t : SetTable}
theorem setT_add (R : SetTR P w s.heap a L es ep t) (hx : IsT P w s.heap k x) (hu : A.units + 1 < cLine) (hfew : L.length + 1 < 64) {Q : Value → Shared → Prop}
    (hQ : ∀ h' tk L' es' ep' t', Heap.SameBut a s.heap h' → SetTR P w h' a L' es' ep' t' → (k ∈ L.map (·.2) → L' = L) → (k ∉ L.map (·.2) → L'.Perm ((x, k) :: L)) → Q .none { s with heap := h', toks := tk }) :
    wpAny (model P w) A (call (.builtin "set.add") [.ref a, .ref x]) Q E s := by
  have hT : s.TypeIs (.ref a) "set" := by
    obtain ⟨o, ho, hex, _⟩ := R.ob
    exact ⟨o, ho, hex.1⟩
  refine wpAny_call_entry F.slot_set_add hT F.entry_set_add ?_ (F.args_set_add_2 _ _)
  unfold Builtin.«set.add» Builtin.Frozenset.oneOther
  simp only [List.isEmpty_nil, bind_assoc]
  unfold Builtin.Frozenset.addrOf setAdd
  refine wpAny_bind (wpAny_pure ?_)
  try dsimp only
  refine wpAny_bind (wpAny_pure ?_)
  try dsimp only
  refine wpAny_bind ?_
  refine wpAny_holding ?_
  refine wpAny_bind ((TK P w).pyHash (show A.in1.units < cLine from hu) hx ?_)
  refine add_at (s := { s with toks := s.toks + (TK P w).draws k }) R hx (show A.in1.units < cLine from hu) hfew fun b h' L' es' ep' t' sb R' e1 e2 => ?_
  show wpAny _ _ (ret Value.none) _ _ _
  exact wpAny_pure ⟨_, rfl, hQ h' _ L' es' ep' t' sb R' e1 e2⟩
end
section
variable {X : Cx} {pins : List (Addr × Obj)} {σ : L2.St} {H : Hp} {s : Shared} {D : Addr} {L : List (Addr × List Int)} {k : List Int} {b : Addr} {E : Value → Shared → Prop}
theorem addT_ok (I : Inv X pins σ H s) (hD : H D = some (SetTO X.prog X.w D L)) (hk : ∀ p ∈ L, SqT X.K H p.1 (p.2.map V.int)) (hb : SqT X.K H b (k.map V.int)) (hu : X.A.units + 1 < cLine) (hfew : L.length + 1 < 64) {Q : Value → Shared → Prop}
    (h : ∀ s' L', (k ∈ L.map (·.2) → L' = L) → (k ∉ L.map (·.2) → L'.Perm ((b, k) :: L)) → Inv X pins σ (upd H D (SetTO X.prog X.w D L')) s' → Q .none s') :
    wpAny (model X.prog X.w) X.A (call (.builtin "set.add") [.ref D, .ref b]) Q E s := by
  have R0 : SetT0 X.prog X.w s.heap D L := (I.hok D _ hD).1
  obtain ⟨es, ep, t, R⟩ := R0.full fun p hp => I.isT (hk p hp)
  refine setT_add R (I.isT hb) hu hfew fun h' tk L' es' ep' t' sb R' e1 e2 => h _ L' e1 e2 ?_
  have he : ∃ u, h'.get? D = some u := by
    obtain ⟨o, ho, _⟩ := R'.ob
    exact ⟨o, ho⟩
  exact I.write (e := D) (t' := tk) (by rw [hD]; trivial) (.inl rfl) (fun b u hb hu => (sb.2 b hb).trans hu) he (setTO_new R'.t0)
theorem addI_ok {S : Int → Bool} {n : Nat} {i : Int} {tk : Tok} (I : Inv X pins σ H s) (hD : H D = some (SetO X.w D S n)) (room : n + 1 < scanBound) {Q : Value → Shared → Prop}
    (h : ∀ s', Inv X pins σ (upd H D (SetO X.w D (fun j => S j || decide (j = i)) (if S i = true then n else n + 1))) s' → Q .none s') :
    wpAny (model X.prog X.w) X.A (call (.builtin "set.add") [.ref D, .int i tk]) Q E s := by
  have R := setO_get I hD
  refine setR_add R room fun h' sb new => h _ ?_
  have he : ∃ u, h'.get? D = some u := by
    have ⟨o, _, _, _, ho, _⟩ := new
    exact ⟨o, ho⟩
  exact I.write (e := D) (t' := s.toks + 1) (by rw [hD]; trivial) (.inl rfl) (fun b u hb hu => (sb.2 b hb).trans hu) he (setO_new new)
end
def newSetO (w : World) : Obj := { cls := .type "set", dict := none, data := .set #[] 0 (.fresh 0 0 (!w.params.followText "set-order")) }
theorem acc_setT {P : Program} {w : World} (H : Hp) (h : Heap) : ObjOk P w H (h.push (newSetO w)) h.objs.size (SetTO P w h.objs.size []) :=
  setTO_new (SetTR.t0 (setTR_fresh (Heap.get?_push_size _ rfl)))
theorem acc_setI {P : Program} {w : World} (H : Hp) (h : Heap) : ObjOk P w H (h.push (newSetO w)) h.objs.size (SetO w h.objs.size (fun _ => false) 0) := by
  refine setO_new ?_
  exact ⟨_, #[], 0, _, Heap.get?_push_size _ rfl, ⟨rfl, rfl, rfl⟩, rfl, (fun e he => by simp at he), (by simp), (fun k => by simp), (by decide), (by rfl), rfl, List.Pairwise.nil, by
    show _ ∨ (!w.params.followText "set-order") = true
    cases w.params.followText "set-order"
    · exact .inr rfl
    · exact .inl rfl⟩
/-- a comprehension's own loop: W by the turn and a measure; tem what a turn does -/
def LoopC (g : TG) (tt : TT) (tem : L2.St → Hp → (Hp → Prop) → Prop) (σ : L2.St) (vs : List Nat) (Qd : Hp → Prop) (J : It) (H0 : Hp) : Prop :=
  ∃ W : Nat → Nat → Hp → Prop, (∃ m, W 0 m H0) ∧ ∀ i m H, W i m H → (J.stop i H ∧ Qd H) ∨ (J.go i H ∧ ∃ Nx : Hp → Prop, (∀ H', Nx H' → ∃ m', m' < m ∧ W (i + 1) m' H') ∧ ∀ x H', J.yld i H x H' →
    g x (wipe σ vs) H' fun σ2 H2 => wipe σ2 vs = wipe σ vs ∧ tt σ2 H2 fun b H3 => if b = true then tem σ2 H3 Nx else Nx H3)
def temT (P : Program) (w : World) (K : PySem.W.Frag) (te : TE) (D : Addr) : L2.St → Hp → (Hp → Prop) → Prop := fun σ2 H2 Nx =>
  te σ2 H2 fun y H4 => ∃ (b : Addr) (k : List Int) (L : List (Addr × List Int)), y = .ref b ∧ SqT K H4 b (k.map V.int) ∧ H4 D = some (SetTO P w D L) ∧ (∀ p ∈ L, SqT K H4 p.1 (p.2.map V.int)) ∧ L.length + 1 < 64 ∧
      ∀ L', (k ∈ L.map (fun p => p.2) → L' = L) → (k ∉ L.map (fun p => p.2) → L'.Perm ((b, k) :: L)) → Nx (upd H4 D (SetTO P w D L'))
def temI (w : World) (te : TE) (D : Addr) : L2.St → Hp → (Hp → Prop) → Prop := fun σ2 H2 Nx =>
  te σ2 H2 fun y H4 => ∃ (i : Int) (S : Int → Bool) (n : Nat), y = .int i ∧ H4 D = some (SetO w D S n) ∧ n + 1 < scanBound ∧ Nx (upd H4 D (SetO w D (fun j => S j || decide (j = i)) (if S i = true then n else n + 1)))
section
variable {X : Cx}
theorem emitT {vs : List Nat} {elt : Expr} {te : TE} {Y : Cx} {D : Addr} (he : PE Y elt te) (hx : Y.xe = fun _ _ => False) (hu : Y.A.units + 1 < cLine) (E1 E2 : Value → Shared → Prop) (pins : List (Addr × Obj)) (σ2 : L2.St) (H : Hp) (s : Shared) (Nx : Hp → Prop) (post : Shared → Prop)
    (I : Inv Y pins σ2 H s) (q : temT Y.prog Y.w Y.K te D σ2 H Nx) (k : ∀ s' H' σ9, Inv Y pins σ9 H' s' → σ9.length = σ2.length → (∀ (j : Nat) v, (wipe σ2 vs)[j]? = some (some v) → σ9[j]? = some (some v)) → Nx H' → post s') :
    wpAny (model Y.prog Y.w) Y.A (eval elt Y.env) (fun x s₄ => wpAny (model Y.prog Y.w) Y.A (call (.builtin "set.add") [.ref D, x]) (fun _ s₅ => post s₅) E1 s₄) E2 s := by
  have e := he.run _ s σ2 H _ I q
  rw [hx] at e
  refine thnF e fun u s5 ⟨y, H4, I4, r4, b, kk, L, ey, hb, hD, hL, hl, nx⟩ => ?_
  subst ey
  cases r4
  exact addT_ok I4 hD hL hb hu hl fun s6 L' e1 e2 I6 => k _ _ _ I6 rfl (fun j v e => (wipe_some e).1) (nx L' e1 e2)
theorem emitI {vs : List Nat} {elt : Expr} {te : TE} {Y : Cx} {D : Addr} (he : PE Y elt te) (hx : Y.xe = fun _ _ => False) (E1 E2 : Value → Shared → Prop) (pins : List (Addr × Obj)) (σ2 : L2.St) (H : Hp) (s : Shared) (Nx : Hp → Prop) (post : Shared → Prop)
    (I : Inv Y pins σ2 H s) (q : temI Y.w te D σ2 H Nx) (k : ∀ s' H' σ9, Inv Y pins σ9 H' s' → σ9.length = σ2.length → (∀ (j : Nat) v, (wipe σ2 vs)[j]? = some (some v) → σ9[j]? = some (some v)) → Nx H' → post s') :
    wpAny (model Y.prog Y.w) Y.A (eval elt Y.env) (fun x s₄ => wpAny (model Y.prog Y.w) Y.A (call (.builtin "set.add") [.ref D, x]) (fun _ s₅ => post s₅) E1 s₄) E2 s := by
  have e := he.run _ s σ2 H _ I q
  rw [hx] at e
  refine thnF e fun u s5 ⟨y, H4, I4, r4, i, S, n, ey, hD, hn, nx⟩ => ?_
  subst ey
  obtain ⟨tk, rfl⟩ := r4
  exact addI_ok I4 hD hn fun s6 I6 => k _ _ _ I6 rfl (fun j v e => (wipe_some e).1) nx
/-- one for: tuples of ints -/
def tScT (P : Program) (w : World) (K : PySem.W.Frag) (wi : TI) (g : TG) (te : TE) (vs : List Nat) : TE := fun σ H Q => wi σ H fun J H1 => ∀ D, H1 D = none → LoopC g tYes (temT P w K te D) σ vs (fun H => Q (.ref D) H) J (upd H1 D (SetTO P w D []))
theorem pe_scT {elt tg iter : Expr} {scope : Scope} {own : List (Str × Nat)} {pos : Pos} {wi : TI} {g : TG} {te : TE} (hu : X.A.units + 1 < cLine) (hc : X.calm = true) (hN : X.N.Nodup) (hi : PI X tg iter wi) (ok : BlkOk X.N X.env.scope scope own)
    (hg : ∀ (s : Shared) (H : Hp) (C : Addr) (cl : List (Str × Addr)) (fp : List Addr), PG (X.blk s H scope (compEnvC scope cl C X.env) fp) tg g)
    (he : ∀ (s : Shared) (H : Hp) (C : Addr) (cl : List (Str × Addr)) (fp : List Addr), PE (X.blk s H scope (compEnvC scope cl C X.env) fp) elt te) (hs : ∀ x, foldedSetIterable iter X.env x = pure x := by intro _; rfl) :
    PE X (.SetComp elt [⟨tg, iter, [], 0⟩] scope pos) (tScT X.prog X.w X.K wi g te (own.map (·.2))) := by
  refine ⟨fun pins s σ H Q I h => ?_⟩
  rw [PpSet.eval_SetComp]
  refine comp_enter (oA := newSetO X.w) (acc0 := fun D => SetTO X.prog X.w D []) (L := fun J D H0 => LoopC g tYes (temT X.prog X.w X.K te D) σ (own.map fun p : Str × Nat => p.2) (fun H => Q (.ref D) H) J H0)
    hN I hi ok rfl hs (fun s Q E q => PpSet.newSet_ok q) (fun H h _ => acc_setT H h) h fun s3 H3 C cl fp it D tn J s4 R I4 T st4 hf nf ⟨W, ⟨m0, w0⟩, turn⟩ hR => ?_
  have loop : codeAny (model X.prog X.w) X.A (.compLoop (.SetComp elt [⟨tg, iter, [], 0⟩] scope pos) 0 (.ref it) (.ref D) (compEnvC scope cl C X.env)) R s4 := by
    refine PpSet.compLoopS_any (Lp (X.blk s3 H3 scope (compEnvC scope cl C X.env) fp) tn fp [] (wipe σ (own.map (·.2))) W) (fun n s h => ?_) m0 ⟨0, H3, I4, st4, nf, w0⟩
    refine thn (blk_turn (Y := X.blk s3 H3 scope (compEnvC scope cl C X.env) fp) T hc rfl hf turn (hg s3 H3 C cl fp) pts_nil _
      (emitT (Y := X.blk s3 H3 scope (compEnvC scope cl C X.env) fp) (D := D) (he s3 H3 C cl fp) rfl hu (notedBy (model X.prog X.w) X.A (compEnvC scope cl C X.env) fun e s' => R (.error e) s') (notedBy (model X.prog X.w) X.A (compEnvC scope cl C X.env) fun e s' => R (.error e) s')) n s _ h) fun r s1 h1 => ?_
    cases r with
    | none =>
      obtain ⟨H5, I5, q5⟩ := h1
      exact hR _ _ I5 q5
    | some v => exact h1
  exact PpSet.codeAny_compStart_set loop (T.self X.A 0 _ _ _ st4 loop)
end
end K78

/-! text N4 -/
set_option Elab.async false
set_option linter.all false
set_option maxRecDepth 100000
set_option maxHeartbeats 2000000
namespace K78
open PySem PySem.Spec PyProof.Rows L2

/-! ### {elt for .. in .. for .. in ..}: the items are ints -/
abbrev sc2 (elt t0 i0 t1 i1 : Expr) (scope : Scope) (pos : Pos) : Expr := .SetComp elt [⟨t0, i0, [], 0⟩, ⟨t1, i1, [], 0⟩] scope pos
section
variable {prog : Program} {w : World} {A : Around} {R : Result → Shared → Prop} {s : Shared} {elt t0 i0 t1 i1 : Expr} {scope : Scope} {pos : Pos} {it acc : Value} {env : Env}
theorem sc2_turn0 : compTurn (sc2 elt t0 i0 t1 i1 scope pos) 0 it acc env = (do
      standAt i0.pos
      match ← pyNext it with
      | none => pure (.done .next)
      | some v =>
        letOwnedTupleGo t0 it v
        assign t0 env v
        let mut ok := true
        for c in ([] : List Expr) do
          if ok then ok ← isTrue c env (eval c env)
        if ok then
          let x ← eval i1 env
          standAt i1.pos
          let x ← foldedSetIterable i1 env x
          let _ ← runOwn (.compStart (sc2 elt t0 i0 t1 i1 scope pos) 1 (← holding [x] (pyIter x)) acc env) env
        again (.compLoop (sc2 elt t0 i0 t1 i1 scope pos) 0 it acc env)) := by rfl
theorem sc2_turn1 : compTurn (sc2 elt t0 i0 t1 i1 scope pos) 1 it acc env = (do
      standAt i1.pos
      match ← pyNext it with
      | none => pure (.done .next)
      | some v =>
        letOwnedTupleGo t1 it v
        assign t1 env v
        let mut ok := true
        for c in ([] : List Expr) do
          if ok then ok ← isTrue c env (eval c env)
        if ok then
          (do let v ← eval elt env; standAt elt.pos; let _ ← call (.builtin "set.add") [acc, v])
        again (.compLoop (sc2 elt t0 i0 t1 i1 scope pos) 1 it acc env)) := by rfl
/-- what a turn of a loop leaves to show -/
abbrev TurnW (prog : Program) (w : World) (A : Around) (tg : Expr) (it : Value) (env : Env) (stop : Shared → Prop) (emitW : Shared → (Shared → Prop) → Prop) (post : Shared → Prop) (E : Value → Shared → Prop) (s : Shared) : Prop :=
  wpAny (model prog w) A (pyNext it) (fun r s₁ => match r with
      | none => stop s₁
      | some v => wpAny (model prog w) A (letOwnedTupleGo tg it v) (fun _ s₁' => wpAny (model prog w) A (assign tg env v) (fun _ s₂ =>
          wpAny (model prog w) A (forIn ([] : List Expr) true fun c r => if r = true then do let ok ← isTrue c env (eval c env); pure (ForInStep.yield ok) else pure (ForInStep.yield r)) (fun ok s₃ =>
            if ok = true then emitW s₃ post else post s₃) E s₂) E s₁') E s₁) E s
theorem sc2_loop0 (hs : ∀ x, foldedSetIterable i1 env x = pure x) (I : Nat → Shared → Prop)
    (turn : ∀ n s, I n s → TurnW prog w A t0 it env (fun s' => R (.ok .next) s')
      (fun s₃ post => wpAny (model prog w) A (eval i1 env) (fun x s₄ => wpAny (model prog w) A (pyIter x) (fun it1 s₅ => codeAny (model prog w) A (.compStart (sc2 elt t0 i0 t1 i1 scope pos) 1 it1 acc env) (fun r s' => match r with
                | .ok _ => post s'
                | .error _ => False) s₅) (notedBy (model prog w) A env fun e s' => R (.error e) s') s₄) (notedBy (model prog w) A env fun e s' => R (.error e) s') s₃)
      (fun s' => ∃ m, m < n ∧ I m s') (notedBy (model prog w) A env fun e s' => R (.error e) s') s) (n : Nat) (h : I n s) :
    codeAny (model prog w) A (.compLoop (sc2 elt t0 i0 t1 i1 scope pos) 0 it acc env) R s := by
  refine codeAny_loop rfl I (fun n s hI => ?_) n h
  show wpAny _ A ((compTurn (sc2 elt t0 i0 t1 i1 scope pos) 0 it acc env).onRaise (fun x => do noteFrame x env; theTreesLotGoes x)) _ _ s
  refine wpAny_noted ?_
  rw [sc2_turn0]
  refine wpAny_bind (wpAny_standAt (wpAny_bind (wpAny_mono (turn n s hI) (fun r s₁ h₁ => ?_) fun _ _ h' => h')))
  cases r with
  | none => exact wpAny_pure h₁
  | some v =>
    refine wpAny_bind (wpAny_mono h₁ (fun _ s₁' h₁' => ?_) fun _ _ h' => h')
    refine wpAny_bind (wpAny_mono h₁' (fun _ s₂ h₂ => wpAny_bind (wpAny_mono h₂ (fun ok s₃ h₃ => ?_) fun _ _ h' => h')) fun _ _ h' => h')
    cases ok with
    | false => exact wpAny_pure ⟨rfl, h₃⟩
    | true =>
      refine wpAny_bind (wpAny_mono h₃ (fun x s₄ h₄ => ?_) fun _ _ h' => h')
      refine wpAny_bind (wpAny_standAt (wpAny_bind (wpAny_of_eq (hs x) (wpAny_bind (wpAny_holding (wpAny_mono h₄ (fun it1 s₅ h₅ => ?_) fun _ _ h' => h'))))))
      refine wpAny_bind (wpAny_runOwn ?_)
      rw [Around.mark_none]
      refine codeAny_mono h₅ fun r s' hr => ?_
      cases r with
      | ok f =>
        first
          | exact wpAny_pure ⟨rfl, hr⟩
          | exact wpAny_bind (wpAny_pure (wpAny_pure ⟨rfl, hr⟩))
      | error e => exact hr.elim
theorem sc2_loop1 (I : Nat → Shared → Prop)
    (turn : ∀ n s, I n s → TurnW prog w A t1 it env (fun s' => R (.ok .next) s')
      (fun s₃ post => wpAny (model prog w) A (eval elt env) (fun x s₄ => wpAny (model prog w) A (call (.builtin "set.add") [acc, x]) (fun _ s₅ => post s₅) (notedBy (model prog w) A env fun e s' => R (.error e) s') s₄) (notedBy (model prog w) A env fun e s' => R (.error e) s') s₃)
      (fun s' => ∃ m, m < n ∧ I m s') (notedBy (model prog w) A env fun e s' => R (.error e) s') s) (n : Nat) (h : I n s) :
    codeAny (model prog w) A (.compLoop (sc2 elt t0 i0 t1 i1 scope pos) 1 it acc env) R s := by
  refine codeAny_loop rfl I (fun n s hI => ?_) n h
  show wpAny _ A ((compTurn (sc2 elt t0 i0 t1 i1 scope pos) 1 it acc env).onRaise (fun x => do noteFrame x env; theTreesLotGoes x)) _ _ s
  refine wpAny_noted ?_
  rw [sc2_turn1]
  refine wpAny_bind (wpAny_standAt (wpAny_bind (wpAny_mono (turn n s hI) (fun r s₁ h₁ => ?_) fun _ _ h' => h')))
  cases r with
  | none => exact wpAny_pure h₁
  | some v =>
    refine wpAny_bind (wpAny_mono h₁ (fun _ s₁' h₁' => ?_) fun _ _ h' => h')
    refine wpAny_bind (wpAny_mono h₁' (fun _ s₂ h₂ => wpAny_bind (wpAny_mono h₂ (fun ok s₃ h₃ => ?_) fun _ _ h' => h')) fun _ _ h' => h')
    cases ok with
    | false => exact wpAny_pure ⟨rfl, h₃⟩
    | true =>
      exact wpAny_bind (wpAny_bind (wpAny_mono h₃ (fun x s₄ h₄ => wpAny_bind (wpAny_standAt (wpAny_bind (wpAny_mono h₄ (fun _ s₅ h₅ => wpAny_pure (wpAny_pure ⟨rfl, h₅⟩)) fun _ _ h' => h')))) fun _ _ h' => h'))
theorem sc2_start1 (h0 : codeAny (model prog w) A (.compLoop (sc2 elt t0 i0 t1 i1 scope pos) 1 it acc env) R s)
    (h : wpAny (model prog w) A (pyIter it) (fun it' s' => codeAny (model prog w) A (.compLoop (sc2 elt t0 i0 t1 i1 scope pos) 1 it' acc env) R s') (notedBy (model prog w) A env fun x s' => R (.error x) s') s) :
    codeAny (model prog w) A (.compStart (sc2 elt t0 i0 t1 i1 scope pos) 1 it acc env) R s := by
  refine codeAny_of_tree ?_
  show wpAny _ _ ((compStart (sc2 elt t0 i0 t1 i1 scope pos) 1 it acc env).onRaise (fun x => do noteFrame x env; standAt theWindowsPlace)) _ _ s
  refine wpAny_notedAt ?_
  unfold compStart
  show wpAny _ _ (ask >>= _) _ _ s
  refine wpAny_bind (wpAny_askSetting (wpAny_ite ?_))
  split
  · first
      | exact wpAny_bind (wpAny_pure (wpAny_pure (And.intro rfl h0)))
      | exact wpAny_pure (And.intro rfl h0)
  · first
      | exact wpAny_bind (wpAny_rule (wpAny_bind (wpAny_standAt (wpAny_bind (wpAny_mono h (fun it' s' h' => wpAny_pure (And.intro rfl h')) fun _ _ x => x)))))
      | (refine wpAny_bind (wpAny_rule ?_); show wpAny _ _ (standAt i1.pos >>= _) _ _ s; exact wpAny_bind (wpAny_standAt (wpAny_bind (wpAny_mono h (fun it' s' h' => wpAny_pure (And.intro rfl h')) fun _ _ x => x))))
end
/-- what the first loop's turn does: the second loop -/
def tem2 (w : World) (wi1 : TI) (g1 : TG) (te : TE) (vs1 : List Nat) (D : Addr) : L2.St → Hp → (Hp → Prop) → Prop := fun σ2 H2 Nx => wi1 σ2 H2 fun J1 H4 => LoopC g1 tYes (temI w te D) σ2 vs1 Nx J1 H4
def tSc2 (w : World) (wi : TI) (g : TG) (wi1 : TI) (g1 : TG) (te : TE) (vs vs1 : List Nat) : TE := fun σ H Q => wi σ H fun J H1 => ∀ D, H1 D = none → LoopC g tYes (tem2 w wi1 g1 te vs1 D) σ vs (fun H => Q (.ref D) H) J (upd H1 D (SetO w D (fun _ => false) 0))
theorem pe_sc2 {X : Cx} {elt tg iter tg1 iter1 : Expr} {scope : Scope} {own : List (Str × Nat)} {vs1 : List Nat} {pos : Pos} {wi wi1 : TI} {g g1 : TG} {te : TE} (hc : X.calm = true) (hN : X.N.Nodup) (hi : PI X tg iter wi) (ok : BlkOk X.N X.env.scope scope own) (hv : ∀ i ∈ vs1, i ∈ own.map (·.2))
    (hg : ∀ (s : Shared) (H : Hp) (C : Addr) (cl : List (Str × Addr)) (fp : List Addr), PG (X.blk s H scope (compEnvC scope cl C X.env) fp) tg g)
    (hi1 : ∀ (s : Shared) (H : Hp) (C : Addr) (cl : List (Str × Addr)) (fp : List Addr), PI (X.blk s H scope (compEnvC scope cl C X.env) fp) tg1 iter1 wi1)
    (hg1 : ∀ (s : Shared) (H : Hp) (C : Addr) (cl : List (Str × Addr)) (fp : List Addr), PG (X.blk s H scope (compEnvC scope cl C X.env) fp) tg1 g1)
    (he : ∀ (s : Shared) (H : Hp) (C : Addr) (cl : List (Str × Addr)) (fp : List Addr), PE (X.blk s H scope (compEnvC scope cl C X.env) fp) elt te) (hs : ∀ x, foldedSetIterable iter X.env x = pure x := by intro _; rfl) (hs1 : ∀ env x, foldedSetIterable iter1 env x = pure x := by intro _ _; rfl) :
    PE X (sc2 elt tg iter tg1 iter1 scope pos) (tSc2 X.w wi g wi1 g1 te (own.map (·.2)) vs1) := by
  refine ⟨fun pins s σ H Q I h => ?_⟩
  rw [PpSet.eval_SetComp]
  refine comp_enter (oA := newSetO X.w) (acc0 := fun D => SetO X.w D (fun _ => false) 0) (L := fun J D H0 => LoopC g tYes (tem2 X.w wi1 g1 te vs1 D) σ (own.map fun p : Str × Nat => p.2) (fun H => Q (.ref D) H) J H0)
    hN I hi ok rfl hs (fun s Q E q => PpSet.newSet_ok q) (fun H h _ => acc_setI H h) h fun s3 H3 C cl fp it D tn J s4 R I4 T st4 hf nf ⟨W, ⟨m0, w0⟩, turn⟩ hR => ?_
  generalize hY : X.blk s3 H3 scope (compEnvC scope cl C X.env) fp = Y at *
  have pg := hg s3 H3 C cl fp
  have pg1 := hg1 s3 H3 C cl fp
  have pi1 := hi1 s3 H3 C cl fp
  have pe := he s3 H3 C cl fp
  rw [hY] at pg pg1 pi1 pe
  have eP : Y.prog = X.prog := by rw [← hY]
  have ew : Y.w = X.w := by rw [← hY]
  have eK : Y.K = X.K := by rw [← hY]
  have eA : Y.A = X.A := by rw [← hY]
  have eE : Y.env = compEnvC scope cl C X.env := by rw [← hY]
  have ex : Y.xe = fun _ _ => False := by rw [← hY]
  have ec : Y.calm = true := by rw [← hY]; exact hc
  rw [← eP, ← ew, ← eK] at T
  rw [← ew] at turn
  rw [← eP, ← ew, ← eA, ← eE]
  have loop : codeAny (model Y.prog Y.w) Y.A (.compLoop (sc2 elt tg iter tg1 iter1 scope pos) 0 (.ref it) (.ref D) Y.env) R s4 := by
    refine sc2_loop0 (hs1 _) (Lp Y tn fp [] (wipe σ (own.map fun p : Str × Nat => p.2)) W) (fun n s h => ?_) m0 ⟨0, H3, I4, st4, nf, w0⟩
    refine thn (blk_turn (Y := Y) T ec ex hf turn pg pts_nil (fun s₃ post => wpAny (model Y.prog Y.w) Y.A (eval iter1 Y.env) (fun x s₄ => wpAny (model Y.prog Y.w) Y.A (pyIter x) (fun it1 s₅ => codeAny (model Y.prog Y.w) Y.A (.compStart (sc2 elt tg iter tg1 iter1 scope pos) 1 it1 (.ref D) Y.env) (fun r s' => match r with
                | .ok _ => post s'
                | .error _ => False) s₅) (notedBy (model Y.prog Y.w) Y.A Y.env fun e s' => R (.error e) s') s₄) (notedBy (model Y.prog Y.w) Y.A Y.env fun e s' => R (.error e) s') s₃)
      (fun pins' σ2 H s Nx post I2 q k => ?_) n s _ h) fun r s1 h1 => ?_
    · have e1 := pi1.run _ s σ2 H _ I2 q
      rw [ex] at e1
      refine thnF e1 fun xv s10 hx => thnF hx fun itv s11 h11 => ?_
      obtain ⟨it1, fp1, tn1, J1, H11, ei, I11, T1, st11, f11, W1, ⟨m1, w1⟩, turn1⟩ := h11
      subst ei
      have loop1 : codeAny (model Y.prog Y.w) Y.A (.compLoop (sc2 elt tg iter tg1 iter1 scope pos) 1 (.ref it1) (.ref D) Y.env) (fun r s' => match r with
                | .ok _ => post s'
                | .error _ => False) s11 := by
        refine sc2_loop1 (Lp Y tn1 fp1 ([] ++ pins') (wipe σ2 vs1) W1) (fun n s h => ?_) m1 ⟨0, H11, I11.weak (wipe_length _ _) (fun j v e => (wipe_some e).1), st11, fun b hb => (f11 b hb).1, w1⟩
        refine thn (blk_turn (Y := Y) T1 ec ex (fun b hb H' hn => ⟨hn, (f11 b hb).2⟩) turn1 pg1 pts_nil _
          (fun pins2 => emitI (vs := vs1) (Y := Y) (D := D) pe ex (notedBy (model Y.prog Y.w) Y.A Y.env fun e s' => False) (notedBy (model Y.prog Y.w) Y.A Y.env fun e s' => False) (([] ++ pins') ++ pins2)) n s _ h) fun r s1 h1 => ?_
        cases r with
        | none =>
          obtain ⟨H5, I5, q5⟩ := h1
          refine k _ _ _ I5 (wipe_length _ _) (fun j v e => ?_) q5
          obtain ⟨e1, e2⟩ := wipe_some e
          rw [wipe_out fun z => e2 (hv j z)]
          exact e1
        | some v => exact h1
      exact sc2_start1 loop1 (T1.self Y.A 0 _ _ _ st11 loop1)
    · cases r with
      | none =>
        obtain ⟨H5, I5, q5⟩ := h1
        exact hR _ _ I5 q5
      | some v => exact h1
  exact PpSet.codeAny_compStart_set loop (T.self Y.A 0 _ _ _ st4 loop)
end K78

/-! text N5 -/
set_option Elab.async false
set_option linter.all false
set_option maxRecDepth 100000
set_option maxHeartbeats 2000000
namespace K78
open PySem PySem.Spec PyProof.Rows L2

/-! ### dicts with nested keys: the rules -/
section
variable (P : Program) (w : World) (K : PySem.W.Frag)
def rNIn (neg : Bool) : R2 := fun x y H Q => ∃ (a : Addr) (G : Hp) (kvs : List (NestedKey × V)) (k : NestedKey), y = .ref a ∧ L2.Same G H ∧ DAt P w K G H a kvs ∧ Kd K G x k ∧ Q (.bl (if neg = true then !(valV kvs k).isSome else (valV kvs k).isSome)) H
theorem inN {X : Cx} (hu : X.A.units + 9 < cLine) (h : X.prog = P ∧ X.w = w ∧ X.K = K := by exact ⟨rfl, rfl, rfl⟩) : OpR X (compareOp .In) (rNIn P w K false) := by
  obtain ⟨rfl, rfl, rfl⟩ := h
  intro pins s σ H x y v u Q I rx ry h
  obtain ⟨a, G, kvs, k, rfl, gh, D, hk, q⟩ := h
  cases ry
  exact n_in hu I gh D hk rx fun s' I' => ⟨.bl _, H, I', rfl, q⟩
theorem niN {X : Cx} (hu : X.A.units + 9 < cLine) (h : X.prog = P ∧ X.w = w ∧ X.K = K := by exact ⟨rfl, rfl, rfl⟩) : OpR X (compareOp .NotIn) (rNIn P w K true) := by
  obtain ⟨rfl, rfl, rfl⟩ := h
  intro pins s σ H x y v u Q I rx ry h
  obtain ⟨a, G, kvs, k, rfl, gh, D, hk, q⟩ := h
  cases ry
  exact n_notIn hu I gh D hk rx fun s' I' => ⟨.bl _, H, I', rfl, q⟩
def tDGetN (td ty : TE) : TE := fun σ H Q => td σ H fun x H1 => ty σ H1 fun y H2 => ∃ (a : Addr) (G : Hp) (kvs : List (NestedKey × V)) (k : NestedKey) (v : V), x = .ref a ∧ L2.Same G H2 ∧ DAt P w K G H2 a kvs ∧ Kd K G y k ∧ valV kvs k = some v ∧ Q v H2
theorem dn_type {X : Cx} {pins : List (Addr × Obj)} {σ : L2.St} {H : Hp} {s : Shared} {a : Addr} {xs : List (NestedKey × Addr × V)} (I : Inv X pins σ H s) (h : H a = some (DN X.prog X.w a xs)) :
    s.TypeIs (.ref a) "dict" ∧ (∀ b, Value.ref a = .ref b → ∃ ob, s.heap.get? b = some ob ∧ ob.dict = none) := by
  obtain ⟨⟨h0, ys, r, o, es, ep, e1, e2, _⟩, _⟩ := I.hok a _ h
  refine ⟨⟨o, e1, e2.1⟩, fun b q => ?_⟩
  cases q
  exact ⟨o, e1, e2.2.1⟩
theorem dgetN {X : Cx} {o i : Expr} {td ty : TE} {pos : Pos} (hu : X.A.units + 9 < cLine) (ho : PE X o td) (hi : PE X i ty) (hs : NoSl i) (h : X.prog = P ∧ X.w = w ∧ X.K = K := by exact ⟨rfl, rfl, rfl⟩) : PE X (.Subscript o i pos) (tDGetN P w K td ty) := by
  obtain ⟨rfl, rfl, rfl⟩ := h
  refine ⟨fun pins s σ H Q I h => ?_⟩
  refine subD_of PySem.F.slot_dict_getitem.lookup hs (thn (ho.run pins s σ H _ I h) fun u s1 ⟨x, H1, I1, rx, q1⟩ => thn (hi.run pins s1 σ H1 _ I1 q1) fun iv s2 ⟨y, H2, I2, ry, a, G, kvs, k, v, ex, gh, D, hk, hv, q2⟩ => ?_)
  subst ex
  obtain rfl : u = Value.ref a := rx
  obtain ⟨xs, h1, _⟩ := D.ex
  exact ⟨(dn_type I2 h1).1, n_get hu I2 gh D hk ry hv fun w' s3 I3 rw' => ⟨v, H2, I3, rw', q2⟩⟩
def sDPutN (td ty tv : TE) : TS := fun D σ H => tv σ H fun v H1 => td σ H1 fun x H2 => ty σ H2 fun y H3 => ∃ (a : Addr) (G : Hp) (kvs : List (NestedKey × V)) (k : NestedKey), x = .ref a ∧ L2.Same G H3 ∧ G a = none ∧ DAt P w K G H3 a kvs ∧ Kd K G y k ∧ kvs.length < sizeLine ∧
  ∀ o, DAt P w K G (upd H3 a o) a (putK kvs k v) → D.nx σ (upd H3 a o)
theorem dputN {X : Cx} {o i value : Expr} {td ty tv : TE} {pos pos' : Pos} (hu : X.A.units + 9 < cLine) (ho : PE X o td) (hi : PE X i ty) (hv : PE X value tv) (hs : swapsWith value (some (.Subscript o i pos')) pos.line X.env = pure false := by rfl)
    (h : X.prog = P ∧ X.w = w ∧ X.K = K := by exact ⟨rfl, rfl, rfl⟩) : PS X (.Assign [.Subscript o i pos'] value pos) (sDPutN P w K td ty tv) := by
  obtain ⟨rfl, rfl, rfl⟩ := h
  refine ⟨fun pins s σ H D I h => ?_⟩
  refine wpAny_Assign_Subscript (thn (hv.run pins s σ H _ I h) fun r s1 ⟨v, H1, I1, rv, q1⟩ => thn (ho.run pins s1 σ H1 _ I1 q1) fun u s2 ⟨x, H2, I2, rx, q2⟩ => thn (hi.run pins s2 σ H2 _ I2 q2) fun iv s3 ⟨y, H3, I3, ry, a, G, kvs, k, ex, gh, hg, dd, hk, hl, q3⟩ => ?_) hs
  subst ex
  obtain rfl : u = Value.ref a := rx
  exact n_set hu I3 gh hg dd hk ry rv hl fun o s4 D4 I4 => ⟨σ, _, I4, q3 o D4⟩
def tSetdN (td ty tx : TE) : TE := fun σ H Q => td σ H fun x H1 => ∃ (a : Addr) (xs : List (NestedKey × Addr × V)), x = .ref a ∧ H1 a = some (DN P w a xs) ∧ ty σ H1 fun y H2 => tx σ H2 fun z H3 =>
  ∃ (G : Hp) (kvs : List (NestedKey × V)) (k : NestedKey), L2.Same G H3 ∧ G a = none ∧ DAt P w K G H3 a kvs ∧ Kd K G y k ∧ kvs.length < sizeLine ∧ (∀ v, valV kvs k = some v → Q v H3) ∧ (valV kvs k = none → ∀ o, DAt P w K G (upd H3 a o) a (putK kvs k z) → Q z (upd H3 a o))
theorem setdN {X : Cx} {o e f : Expr} {td ty tx : TE} {apos cpos : Pos} (hu : X.A.units + 9 < cLine) (ho : PE X o td) (he : PE X e ty) (hf : PE X f tx) (m : M2 X o "setdefault" apos e f cpos := by exact ⟨rfl, rfl, rfl, rfl⟩)
    (h : X.prog = P ∧ X.w = w ∧ X.K = K := by exact ⟨rfl, rfl, rfl⟩) : PE X (.Call (.Attribute o "setdefault" apos) [e, f] [] cpos) (tSetdN P w K td ty tx) := by
  obtain ⟨rfl, rfl, rfl⟩ := h
  refine ⟨fun pins s σ H Q I h => ?_⟩
  refine wpAny_Call_method m.base m.few m.line PySem.F.plainAttrs_dict PySem.F.slot_dict_setdefault PySem.F.type_dict_setdefault (thn (ho.run pins s σ H _ I h) fun u s1 ⟨x, H1, I1, rx, a, xs, ex, d, q1⟩ => ?_)
  subst ex
  obtain rfl : u = Value.ref a := rx
  obtain ⟨t1, t2⟩ := dn_type I1 d
  refine ⟨t1, t2, ?_⟩
  rw [m.trees]
  refine Calls.callWith_builtin rfl (Calls.evalArgs_plain (Calls.spliced_cons (thn (he.run pins s1 σ H1 _ I1 q1) fun iv s2 ⟨y, H2, I2, ry, q2⟩ =>
    Calls.spliced_cons (thn (hf.run pins s2 σ H2 _ I2 q2) fun fv s3 ⟨z, H3, I3, rz, G, kvs, k, gh, hg, D, hk, hl, q3, q4⟩ => Calls.spliced_nil ?_))))
  exact n_setd hu I3 gh hg D hk ry rz hl (fun y' w' s' e I' r' => ⟨y', H3, I', r', q3 y' e⟩) fun e o s' D' I' => ⟨z, _, I', rz, q4 e o D'⟩
def tDNewN : TE := fun _ H Q => ∀ p, H p = none → (∀ G, DAt P w K G (upd H p (DN P w p [])) p []) → Q (.ref p) (upd H p (DN P w p []))
theorem dn_empty (H : Hp) (h : Heap) (hb : sysModules < h.objs.size) : ObjOk P w H (h.push { cls := .type "dict", data := .dict #[] }) h.objs.size (DN P w h.objs.size []) :=
  dn_ok ⟨beq_eq_false_iff_ne.mpr (Ne.symm (Nat.ne_of_lt hb)), [], .nil, _, #[], 0, Heap.get?_push_size _ rfl, ⟨rfl, rfl, rfl⟩, rfl, rfl, List.nodup_nil⟩
theorem dat_nil (G H : Hp) (p : Addr) : DAt P w K G (upd H p (DN P w p [])) p [] := ⟨[], upd_same, rfl, fun _ h => by cases h⟩
theorem dnewN {X : Cx} {pos : Pos} (h : X.prog = P ∧ X.w = w ∧ X.K = K := by exact ⟨rfl, rfl, rfl⟩) : PE X (.Dict [] [] pos) (tDNewN P w K) := by
  obtain ⟨rfl, rfl, rfl⟩ := h
  exact ⟨fun pins s σ H Q I h => wpAny_Dict_empty ⟨.ref s.heap.objs.size, _, I.laid (a := s.heap.objs.size) (t' := s.toks) (fun _ _ q => Heap.get?_push_of_some _ q) (Nat.le_refl _) (dn_empty _ _ _ s.heap I.big), rfl, h _ (I.hok.fresh (Nat.le_refl _)) fun G => dat_nil _ _ _ G _ _⟩⟩
def rNLen : List V → Hp → VK → Prop := fun xs H Q => ∃ (a : Addr) (G : Hp) (kvs : List (NestedKey × V)), xs = [.ref a] ∧ L2.Same G H ∧ DAt P w K G H a kvs ∧ kvs.length ≤ sizeLine ∧ Q (.int kvs.length) H
theorem dn_raw {X : Cx} {pins : List (Addr × Obj)} {σ : L2.St} {H : Hp} {s : Shared} {a : Addr} {xs : List (NestedKey × Addr × V)} (I : Inv X pins σ H s) (h : H a = some (DN X.prog X.w a xs)) :
    (a == sysModules) = false ∧ ∃ es ep, s.heap.DictRaw a es ep ∧ es.size = xs.length ∧ ∀ (i : Nat) p, xs[i]? = some p → ∃ hi : i < es.size, es[i].key = .ref p.2.1 := by
  obtain ⟨⟨h0, ys, r, o, es, ep, e1, e2, e3, e4, _⟩, _⟩ := I.hok a _ h
  have hs : es.size = ys.length := by rw [← Array.length_toList, e4, List.length_map]
  refine ⟨h0, es, ep, ⟨o, e1, e2, e3⟩, by rw [hs, rx_len r], fun i p hp => ?_⟩
  have hi : i < es.size := by rw [hs, ← rx_len r]; exact (List.getElem?_eq_some_iff.mp hp).1
  refine ⟨hi, ?_⟩
  have hy : i < ys.length := by omega
  have e : es[i] = entryOfKey (nestedKind X.prog X.w) ys[i] := by
    have z : es.toList[i]? = (ys.map (entryOfKey (nestedKind X.prog X.w)))[i]? := by rw [e4]
    rw [List.getElem?_map, List.getElem?_eq_getElem hy, List.getElem?_eq_getElem (by simpa using hi)] at z
    simpa using z
  have both : ∀ {l : List (NestedKey × Addr × V)} {m : List (NestedKey × Addr × Value)}, RX l m → ∀ (i : Nat) p q, l[i]? = some p → m[i]? = some q → p.2.1 = q.2.1 := by
    intro l m r
    induction r with
    | nil => intro i p q h; simp at h
    | cons h t ih =>
      intro i p q h1 h2
      cases i with
      | zero => simp at h1 h2; rw [← h1, ← h2]; exact h.2.1
      | succ j => exact ih j p q (by simpa using h1) (by simpa using h2)
  rw [e]
  show Value.ref ys[i].2.1 = _
  rw [both r i p ys[i] hp (List.getElem?_eq_getElem hy)]
theorem lenN {X : Cx} (h : X.prog = P ∧ X.w = w ∧ X.K = K := by exact ⟨rfl, rfl, rfl⟩) : CallR X (.builtin "len") (rNLen P w K) := by
  obtain ⟨rfl, rfl, rfl⟩ := h
  intro pins s σ H vs us Q I r h
  obtain ⟨a, G, kvs, rfl, gh, D, hl, q⟩ := h
  rw [Vals.ref1 r]
  obtain ⟨xs, h1, rfl, _⟩ := D.ex
  obtain ⟨h0, es, ep, hr, hs, _⟩ := dn_raw I h1
  have e : ((xs.map fun p => (p.1, p.2.2)).length : Int) = (es.size : Int) := by rw [hs, List.length_map]
  rw [e] at q
  refine PyProof.Rows.call_len_slot (n := (es.size : Int)) (dn_type I h1).1 PySem.F.slot_dict_len (fun Q' hq => call_len_raw h0 hr hq) (by omega) (by rw [sizeLine_eq] at hl; rw [List.length_map] at hl; omega) ?_
  exact ⟨.int _, H, I.tok _, ⟨_, rfl⟩, q⟩
/-- the keys, in the order of insertion -/
def KeysAt (G : Hp) (kvs : List (NestedKey × V)) (bs : List Addr) : Prop := bs.length = kvs.length ∧ ∀ (i : Nat) b p, bs[i]? = some b → kvs[i]? = some p → Kd K G (.ref b) p.1
def rNList : List V → Hp → VK → Prop := fun xs H Q => ∃ (a : Addr) (G : Hp) (kvs : List (NestedKey × V)), xs = [.ref a] ∧ L2.Same G H ∧ DAt P w K G H a kvs ∧ kvs.length ≤ sizeLine ∧ ∀ p bs, H p = none → KeysAt K G kvs bs → Q (.ref p) (upd H p (.lst (bs.map V.ref)))
theorem keys_at {G : Hp} {xs : List (NestedKey × Addr × V)} (h : ∀ p ∈ xs, Kd K G (.ref p.2.1) p.1) : KeysAt K G (xs.map fun p => (p.1, p.2.2)) (xs.map fun p => p.2.1) := by
  refine ⟨by simp, fun i b p h1 h2 => ?_⟩
  rw [List.getElem?_map] at h1 h2
  cases e : xs[i]? with
  | none => rw [e] at h1; simp at h1
  | some q =>
    rw [e] at h1 h2
    simp at h1 h2
    rw [← h1, ← h2]
    exact h q (List.mem_of_getElem? e)
theorem items_vals {xs : List (NestedKey × Addr × V)} {es : Array DictEntry} {acc : Array Value} (hs : es.size = xs.length) (hk : ∀ (i : Nat) p, xs[i]? = some p → ∃ hi : i < es.size, es[i].key = .ref p.2.1) (h : ItemsOf (fun i v => ∃ hi : i < es.size, v = es[i].key) acc es.size) :
    Vals ((xs.map fun p => p.2.1).map V.ref) acc.toList := by
  refine vals_of_at (by have := h.1; simp; omega) fun j x u h1 h2 => ?_
  rw [List.map_map, List.getElem?_map] at h1
  obtain ⟨hj, e⟩ := h.2 j u (by rw [← Array.getElem?_toList]; exact h2)
  cases z : xs[j]? with
  | none => rw [z] at h1; simp at h1
  | some p =>
    rw [z] at h1
    simp at h1
    obtain ⟨_, e'⟩ := hk j p z
    rw [← h1, e, e']
    rfl
theorem listN {X : Cx} (hc : X.calm = true := by rfl) (h : X.prog = P ∧ X.w = w ∧ X.K = K := by exact ⟨rfl, rfl, rfl⟩) : CallR X (.type "list") (rNList P w K) := by
  obtain ⟨rfl, rfl, rfl⟩ := h
  intro pins s σ H vs us Q I r h
  obtain ⟨a, G, kvs, rfl, gh, D, hl, q⟩ := h
  rw [Vals.ref1 r]
  obtain ⟨xs, h1, rfl, h3⟩ := D.ex
  obtain ⟨h0, es, ep, hr, hs, hk⟩ := dn_raw I h1
  refine PySem.W.kdl_call (KdlSrc.rawDict h0) (I.ok.hd hc) hr (by rw [hs]; simpa using hl) fun h' tk acc' c' kk hS hacc => ?_
  have hn := I.hok.fresh (Nat.le_refl s.heap.objs.size)
  exact ⟨.ref s.heap.objs.size, _, I.laid (a := s.heap.objs.size) (t' := tk) (o := .lst ((xs.map fun p => p.2.1).map V.ref)) kk (Nat.le_refl _) ⟨by rw [List.length_map, List.length_map]; simpa using hl, acc'.toList, c', items_vals hs hk hacc, by simpa using hS⟩, rfl, q _ _ hn (keys_at _ h3)⟩
end
end K78

/-! text N6 -/
set_option Elab.async false
set_option linter.all false
set_option maxRecDepth 100000
set_option maxHeartbeats 2000000
namespace K78
open PySem PySem.Spec PyProof.Rows L2

/-! ### sorted of a list of data, of a dict's keys -/
structure SrtOk {β : Type} (enc : β → PyData) (bs : List β) : Prop where
  hal : PySem.W.AllAlike (bs.map enc)
  hk : PySem.W.Sortable (bs.map enc)
  hd : ∀ b ∈ bs, (enc b).depth ≤ 8
  hL : bs.length ≤ sizeLine
abbrev srt {β : Type} (enc : β → PyData) (bs : List β) : List β := bs.mergeSort (PySem.W.dataLe false enc)
section
variable {X : Cx} {pins : List (Addr × Obj)} {σ : L2.St} {H G : Hp} {s : Shared} {β : Type} {enc : β → PyData}
/-- the values, with what they stand for -/
abbrev Rv (K : PySem.W.Frag) (G : Hp) (enc : β → PyData) : Value → β → Prop := fun u b => ∃ x, RelV x u ∧ Dp K G x (enc b)
theorem each_rv {K : PySem.W.Frag} : ∀ {bs : List β} {xs : List V} {us : List Value}, DpAll K G xs (bs.map enc) → Vals xs us → PySem.W.EachIs (Rv K G enc) us bs
  | [], _, _, h, r => by cases h; cases r; exact .nil
  | b :: bs, _, _, h, r => by
    rw [List.map_cons] at h
    cases h with
    | cons h1 h2 =>
      cases r with
      | cons r1 r2 => exact .cons ⟨_, r1, h1⟩ (each_rv h2 r2)
theorem rv_each {K : PySem.W.Frag} {us : List Value} {bs : List β} (e : PySem.W.EachIs (Rv K G enc) us bs) : ∃ xs, Vals xs us ∧ DpAll K G xs (bs.map enc) := by
  induction e with
  | nil => exact ⟨[], .nil, .nil⟩
  | cons h _ ih =>
    obtain ⟨x, h1, h2⟩ := h
    obtain ⟨xs, h3, h4⟩ := ih
    exact ⟨x :: xs, .cons h1 h3, .cons h2 h4⟩
theorem rv_reads (I : Inv X pins σ H s) (gh : L2.Same G H) {us : List Value} {bs : List β} (e : PySem.W.EachIs (Rv X.K G enc) us bs) : PySem.W.EachIs (fun v b => ∃ as, Reads s.heap v (enc b) as) us bs :=
  e.mono fun u b ⟨x, r, d⟩ => Dp.reads I _ _ _ (dp_up gh d) r
mutual
theorem reads_nil {h : Heap} : ∀ (d : PyData) (u : Value) (as : List Addr), okK d = true → Reads h u d as → as = []
  | .int i, _, _, _, r => by cases r; rfl
  | .tuple ds, _, _, hk, r => by
    cases r with
    | tuple h1 h2 h3 h4 => exact reads_nils ds _ _ (by simpa [okK] using hk) h4
  | .none, _, _, hk, _ => by simp [okK] at hk
  | .bool _, _, _, hk, _ => by simp [okK] at hk
  | .str _, _, _, hk, _ => by simp [okK] at hk
  | .list _, _, _, hk, _ => by simp [okK] at hk
  | .dict _, _, _, hk, _ => by simp [okK] at hk
theorem reads_nils {h : Heap} : ∀ (ds : List PyData) (us : List Value) (as : List Addr), okKs ds = true → ReadsAll h us ds as → as = []
  | [], _, _, _, r => by cases r; rfl
  | d :: ds, _, _, hk, r => by
    simp only [okKs, Bool.and_eq_true] at hk
    cases r with
    | cons h1 h2 => rw [reads_nil d _ _ hk.1 h1, reads_nils ds _ _ hk.2 h2]; rfl
end
end
section
variable (P : Program) (w : World) (K : PySem.W.Frag)
def rSortB : List V → Hp → VK → Prop := fun vs H Q => ∃ (β : Type) (enc : β → PyData) (bs : List β) (v : V) (G : Hp), vs = [v] ∧ L2.Same G H ∧ Dp K G v (.list (bs.map enc)) ∧ SrtOk enc bs ∧
  ∀ p xs, H p = none → DpAll K G xs ((srt enc bs).map enc) → Q (.ref p) (upd H p (.lst xs))
theorem sortB {X : Cx} (hu : X.A.units + 64 < cLine) (h : X.K = K := by rfl) : CallR X (.builtin "sorted") (rSortB K) := by
  subst h
  intro pins s σ H vs us Q I r h
  obtain ⟨β, enc, bs, v, G, rfl, gh, hd, ok, q⟩ := h
  obtain ⟨a, xs, rfl, hs, hx⟩ := dp_list hd
  obtain ⟨its, rv, hl, hz⟩ := I.list (gh.seq hs)
  rw [Vals.ref1 r]
  have e := each_rv hx rv
  refine PySem.W.sorted_data (vs := its) hl.isList e (rv_reads I gh e) ok.hal ok.hk ok.hL (fun b hb => by have := ok.hd b hb; omega) fun out ho eo => ?_
  obtain ⟨ys, y1, y2⟩ := rv_each eo
  obtain ⟨c, hc⟩ := sortedAll_at s.heap its (List.toArray out)
  have hn : H (s.heap.objs.size + 1) = none := I.hok.fresh (by omega)
  exact ⟨.ref (s.heap.objs.size + 1), _, I.laid (a := s.heap.objs.size + 1) (t' := s.toks) (o := .lst ys) (fun b o e => sortedAll_old e) (by omega) ⟨by rw [y1.length, ho]; exact ok.hL, out, c, y1, hc⟩, rfl, q _ ys hn y2⟩
def rSortN : List V → Hp → VK → Prop := fun vs H Q => ∃ (β : Type) (enc : β → PyData) (bs : List β) (a : Addr) (G : Hp) (kvs : List (NestedKey × V)), vs = [.ref a] ∧ L2.Same G H ∧ DAt P w K G H a kvs ∧ kvs.map (·.1) = bs.map (fun b => toK (enc b)) ∧ (∀ b ∈ bs, okK (enc b) = true) ∧ SrtOk enc bs ∧
  ∀ p xs, H p = none → DpAll K G xs ((srt enc bs).map enc) → Q (.ref p) (upd H p (.lst xs))
theorem kd_dp {G : Hp} {v : V} {d : PyData} (h : Kd K G v (toK d)) (hd : okK d = true) : Dp K G v d := by
  obtain ⟨⟨d', ds, h1, h2, h3, h4⟩, _⟩ := h
  rw [← toK_inj d' d h3 hd h4]; exact h1
theorem each_ref {β : Type} {G : Hp} {enc : β → PyData} : ∀ (bs : List Addr) (cs : List β), bs.length = cs.length → (∀ (i : Nat) a b, bs[i]? = some a → cs[i]? = some b → Dp K G (.ref a) (enc b)) → ∀ {us : List Value}, us = bs.map Value.ref → PySem.W.EachIs (Rv K G enc) us cs
  | [], [], _, _, _, e => by rw [e]; exact .nil
  | [], _ :: _, h, _, _, _ => by simp at h
  | _ :: _, [], h, _, _, _ => by simp at h
  | a :: bs, c :: cs, h, f, _, e => by
    rw [e, List.map_cons]
    exact .cons ⟨.ref a, rfl, f 0 a c rfl rfl⟩ (each_ref bs cs (by simpa using h) (fun i x y h1 h2 => f (i + 1) x y (by simpa using h1) (by simpa using h2)) rfl)
theorem sortN {X : Cx} (hu : X.A.units + 64 < cLine) (hc : X.calm = true := by rfl) (h : X.prog = P ∧ X.w = w ∧ X.K = K := by exact ⟨rfl, rfl, rfl⟩) : CallR X (.builtin "sorted") (rSortN P w K) := by
  obtain ⟨rfl, rfl, rfl⟩ := h
  intro pins s σ H vs us Q I r h
  obtain ⟨β, enc, bs, a, G, kvs, rfl, gh, D, hm, hko, ok, q⟩ := h
  rw [Vals.ref1 r]
  obtain ⟨xs, h1, rfl, h3⟩ := D.ex
  obtain ⟨h0, es, ep, hr, hs, hk⟩ := dn_raw I h1
  have hlen : xs.length = bs.length := by have := congrArg List.length hm; simpa using this
  refine Calls.call_function_entry kind_sorted plain_sorted entry_sorted (args_sorted1 _) ?_
  unfold Builtin.«sorted»
  refine wpAny_bind (m := checkCount "sorted" 1 1 _) (wpAny_pure ?_)
  refine wpAny_bind (PySem.W.kdu_collect (A := X.A.in1) (KdlSrc.rawDict h0) (show X.A.in1.handled = none from I.ok.hd hc) hr (by rw [hs, hlen]; exact ok.hL) fun h' tk acc kk hacc => ?_)
  have hv := items_vals (xs := xs) (es := es) hs hk hacc
  have hl : acc.toList.length = bs.length := by rw [← hv.length, List.length_map, List.length_map, hlen]
  refine wpAny_bind (wpAny_newList ?_ (by rw [hl]; exact ok.hL))
  have ea : acc.toList = (xs.map fun p => p.2.1).map Value.ref := by
    have gen : ∀ {l : List Addr} {u : List Value}, Vals (l.map V.ref) u → u = l.map Value.ref := by
      intro l
      induction l with
      | nil => intro u r; cases r; rfl
      | cons b l ih =>
        intro u r
        rw [List.map_cons] at r
        cases r with
        | cons r1 r2 => cases r1; rw [ih r2]; rfl
    exact gen hv
  have e : PySem.W.EachIs (Rv X.K G enc) acc.toList bs := each_ref X.K (xs.map fun p => p.2.1) bs (by simpa using hlen) (fun i b c z1 z2 => by
    rw [List.getElem?_map] at z1
    cases zx : xs[i]? with
    | none => rw [zx] at z1; simp at z1
    | some p =>
      rw [zx] at z1
      simp at z1
      subst z1
      have hkp := h3 p (List.mem_of_getElem? zx)
      have ek : p.1 = toK (enc c) := by
        have z := congrArg (fun l => l[i]?) hm
        simp [zx, z2] at z
        exact z
      rw [ek] at hkp
      exact kd_dp X.K hkp (hko c (List.mem_of_getElem? z2))) ea
  have er := rv_reads I gh e
  have hD : (h'.push { cls := .type "list", data := .seq acc.toList.toArray }).get? h'.objs.size = some (seqObj "list" acc.toList.toArray 0) := Heap.get?_push_size _ rfl
  have I1 : Inv X pins σ H { s with heap := h', toks := tk } := I.kept kk
  have kk2 : ∀ b o, s.heap.get? b = some o → (h'.push { cls := .type "list", data := .seq acc.toList.toArray }).get? b = some o := fun b o e => Heap.get?_push_of_some _ (kk b o e)
  have er2 : PySem.W.EachIs (fun v b => ∃ as, Reads (h'.push { cls := .type "list", data := .seq acc.toList.toArray }) v (enc b) as ∧ h'.objs.size ∉ as) acc.toList bs := (PySem.W.each_mem er).mono fun v b ⟨⟨as, r⟩, hb⟩ => by
    have e0 := reads_nil _ _ _ (hko b hb) r
    subst e0
    exact ⟨[], PyProof.Rows.Reads.keeps kk2 r, by simp⟩
  refine wpAny_bind (wpAny_holding ?_)
  refine wpAny_mono (PySem.W.list_sort_data (vs := acc.toList) (s := { s with heap := h'.push { cls := .type "list", data := .seq acc.toList.toArray }, toks := tk }) (a := h'.objs.size) (n := 0) (Q := fun _ s' => EP X pins σ Q (.ref h'.objs.size) s') hD e er2 ok.hal ok.hk ok.hL (fun b hb => ?_) fun out ho eo => ?_) (fun _ s' x => wpAny_pure ⟨_, rfl, x⟩) fun _ _ e => e
  · have := ok.hd b hb
    show X.A.units + 1 + 1 + _ < _
    omega
  · obtain ⟨ys, y1, y2⟩ := rv_each eo
    obtain ⟨c, hc⟩ := sortedHeap_at (vs := acc.toList) (out := List.toArray out) hD
    have hn : H h'.objs.size = none := I1.hok.fresh (Nat.le_refl _)
    refine ⟨.ref h'.objs.size, _, I1.laid (a := h'.objs.size) (t' := tk) (o := .lst ys) (fun b o e => ?_) (Nat.le_refl _) ⟨by rw [y1.length, ho]; exact ok.hL, out, c, y1, hc⟩, rfl, q _ ys hn y2⟩
    have hlt := Heap.lt_size e
    exact (sortedHeap_old (Nat.ne_of_lt hlt) (by rw [Heap.size_push]; exact Nat.lt_succ_of_lt hlt)).trans (Heap.get?_push_of_some _ e)
end
end K78

/-! text N7 -/
set_option Elab.async false
set_option linter.all false
set_option maxRecDepth 100000
set_option maxHeartbeats 2000000
namespace K78
open PySem PySem.Spec PyProof.Rows L2

/-! ### {k: v}, and {k: v for ..}, the keys nested -/
section
variable {X : Cx} {pins : List (Addr × Obj)} {σ : L2.St} {H G : Hp} {s : Shared} {a : Addr} {kvs : List (NestedKey × V)} {k : NestedKey} {x v : V} {A : Around} {E : Value → Shared → Prop}
theorem n_dset {u r : Value} {Q : Unit → Shared → Prop} (hu : A.units + 9 < cLine) (I : Inv X pins σ H s) (gh : L2.Same G H) (hg : G a = none) (D : DAt X.prog X.w X.K G H a kvs) (hk : Kd X.K G x k) (rx : RelV x u) (rv : RelV v r) (hl : kvs.length < sizeLine)
    (h : ∀ o s', DAt X.prog X.w X.K G (upd H a o) a (putK kvs k v) → Inv X pins σ (upd H a o) s' → Q () s') : wpAny (model X.prog X.w) A (dictSet a u r) Q E s := by
  obtain ⟨xs, h1, rfl, h3⟩ := D.ex
  obtain ⟨h0, ys, rr, dd⟩ := dn_of I gh h1 h3
  obtain ⟨b, rfl⟩ := kd_ref hk
  cases rx
  refine wpAny_dictSet_heap (hsz := by rw [← rx_len rr]; simpa using Nat.le_of_lt hl) (show (nestedKind X.prog X.w).room A from (by show A.units + 8 < cLine; omega)) (kd_is I gh hk) dd fun h' dd' sb => ?_
  obtain ⟨I', D'⟩ := n_put_inv (t' := s.toks + (nestedKind X.prog X.w).draws k) I gh h1 h0 rr h3 hk rv dd' sb hg
  exact h _ _ D' I'
end
section
variable (P : Program) (w : World) (K : PySem.W.Frag)
def tDisp1N (tk tv : TE) : TE := fun σ H Q => ∀ p, H p = none → tk σ (upd H p (DN P w p [])) fun y H1 => tv σ H1 fun z H2 => ∃ (G : Hp) (k : NestedKey), L2.Same G H2 ∧ G p = none ∧ H2 p = some (DN P w p []) ∧ Kd K G y k ∧ ∀ o, DAt P w K G (upd H2 p o) p [(k, z)] → Q (.ref p) (upd H2 p o)
theorem disp1N {X : Cx} {ke ve : Expr} {tk tv : TE} {pos : Pos} (hu : X.A.units + 9 < cLine) (hk : PE X ke tk) (hv : PE X ve tv) (h : X.prog = P ∧ X.w = w ∧ X.K = K := by exact ⟨rfl, rfl, rfl⟩) : PE X (.Dict [some ke] [ve] pos) (tDisp1N P w K tk tv) := by
  obtain ⟨rfl, rfl, rfl⟩ := h
  refine ⟨fun pins s σ H Q I h => ?_⟩
  refine wpAny_Dict_any rfl rfl (by simp) (by simp) ?_
  generalize hp : s.heap.objs.size = p
  have hn : H p = none := I.hok.fresh (Nat.le_of_eq hp)
  have I1 : Inv X pins σ (upd H p (DN X.prog X.w p [])) { s with heap := s.heap.push { cls := .type "dict", data := .dict #[] } } := by
    refine I.laid (t' := s.toks) (fun b o e => Heap.get?_push_of_some _ e) (Nat.le_of_eq hp) ?_
    rw [← hp]
    exact dn_empty _ _ _ s.heap I.big
  show wpAny _ _ (evalPairs [(eval ke X.env, do let x ← eval ve X.env; standAt pos; pure x)]) _ _ _
  unfold evalPairs
  refine wpAny_bind (thn (hk.run pins _ σ _ _ I1 (h p hn)) fun kv s1 ⟨y, H1, I2, ry, q1⟩ => ?_)
  refine wpAny_bind (wpAny_holding (wpAny_bind (thn (hv.run pins s1 σ H1 _ I2 q1) fun vv s2 ⟨z, H2, I3, rz, G, k, gh, hg, hD, hk2, q2⟩ => wpAny_bind (wpAny_standAt (wpAny_pure ?_)))))
  refine wpAny_bind (wpAny_holding ?_)
  unfold evalPairs
  refine wpAny_pure (wpAny_pure ?_)
  unfold storeAll
  rw [List.forIn_cons]
  refine wpAny_bind (wpAny_bind (n_dset (kvs := []) hu I3 gh hg ⟨[], hD, rfl, fun _ h => by cases h⟩ hk2 ry rz (by rw [sizeLine_eq]; decide) fun o s3 D3 I4 => ?_))
  refine wpAny_pure ?_
  show wpAny _ _ (forIn [] _ _) _ _ _
  rw [List.forIn_nil]
  exact wpAny_pure ⟨.ref p, _, I4, rfl, q2 o D3⟩
/-- what a turn of the comprehension does -/
def temD (P : Program) (w : World) (K : PySem.W.Frag) (tk tv : TE) (D : Addr) : L2.St → Hp → (Hp → Prop) → Prop := fun σ2 H2 Nx =>
  tk σ2 H2 fun y H4 => tv σ2 H4 fun z H5 => ∃ (G : Hp) (kvs : List (NestedKey × V)) (k : NestedKey), L2.Same G H5 ∧ G D = none ∧ DAt P w K G H5 D kvs ∧ Kd K G y k ∧ kvs.length < sizeLine ∧ ∀ o, DAt P w K G (upd H5 D o) D (putK kvs k z) → Nx (upd H5 D o)
theorem emitD {vs : List Nat} {ke ve : Expr} {tk tv : TE} {Y : Cx} {D : Addr} (hk : PE Y ke tk) (hv : PE Y ve tv) (hx : Y.xe = fun _ _ => False) (hu : Y.A.units + 9 < cLine) (E1 : Value → Shared → Prop) (pins : List (Addr × Obj)) (σ2 : L2.St) (H : Hp) (s : Shared) (Nx : Hp → Prop) (post : Shared → Prop)
    (I : Inv Y pins σ2 H s) (q : temD Y.prog Y.w Y.K tk tv D σ2 H Nx) (k : ∀ s' H' σ9, Inv Y pins σ9 H' s' → σ9.length = σ2.length → (∀ (j : Nat) v, (wipe σ2 vs)[j]? = some (some v) → σ9[j]? = some (some v)) → Nx H' → post s') :
    wpAny (model Y.prog Y.w) Y.A (eval ke Y.env) (fun kv s₄ => wpAny (model Y.prog Y.w) Y.A (eval ve Y.env) (fun vv s₅ => wpAny (model Y.prog Y.w) Y.A (dictSet D kv vv) (fun _ s₆ => post s₆) E1 s₅) E1 s₄) E1 s := by
  have e := hk.run _ s σ2 H _ I q
  rw [hx] at e
  refine thnF e fun u s5 ⟨y, H4, I4, r4, q4⟩ => ?_
  have e2 := hv.run _ s5 σ2 H4 _ I4 q4
  rw [hx] at e2
  refine thnF e2 fun u2 s6 ⟨z, H5, I5, r5, G, kvs, kk, gh, hg, hD, hkk, hl, nx⟩ => ?_
  exact n_dset hu I5 gh hg hD hkk r4 r5 hl fun o s7 D7 I7 => k _ _ _ I7 rfl (fun j v e => (wipe_some e).1) (nx o D7)
def tDcN (P : Program) (w : World) (K : PySem.W.Frag) (wi : TI) (g : TG) (tk tv : TE) (vs : List Nat) : TE := fun σ H Q => wi σ H fun J H1 => ∀ D, H1 D = none → LoopC g tYes (temD P w K tk tv D) σ vs (fun H => Q (.ref D) H) J (upd H1 D (DN P w D []))
theorem pe_dcN {X : Cx} {ke ve tg iter : Expr} {scope : Scope} {own : List (Str × Nat)} {pos : Pos} {wi : TI} {g : TG} {tk tv : TE} (hu : X.A.units + 9 < cLine) (hc : X.calm = true) (hN : X.N.Nodup) (hi : PI X tg iter wi) (ok : BlkOk X.N X.env.scope scope own)
    (hg : ∀ (s : Shared) (H : Hp) (C : Addr) (cl : List (Str × Addr)) (fp : List Addr), PG (X.blk s H scope (compEnvC scope cl C X.env) fp) tg g)
    (hk : ∀ (s : Shared) (H : Hp) (C : Addr) (cl : List (Str × Addr)) (fp : List Addr), PE (X.blk s H scope (compEnvC scope cl C X.env) fp) ke tk)
    (hv : ∀ (s : Shared) (H : Hp) (C : Addr) (cl : List (Str × Addr)) (fp : List Addr), PE (X.blk s H scope (compEnvC scope cl C X.env) fp) ve tv) (hs : ∀ x, foldedSetIterable iter X.env x = pure x := by intro _; rfl)
    (h : X.prog = P ∧ X.w = w ∧ X.K = K := by exact ⟨rfl, rfl, rfl⟩) :
    PE X (.DictComp ke ve [⟨tg, iter, [], 0⟩] scope pos) (tDcN P w K wi g tk tv (own.map (·.2))) := by
  obtain ⟨rfl, rfl, rfl⟩ := h
  refine ⟨fun pins s σ H Q I h => ?_⟩
  rw [arm_eval_DictComp]
  refine comp_enter (oA := { cls := .type "dict", data := .dict #[] }) (acc0 := fun D => DN X.prog X.w D []) (L := fun J D H0 => LoopC g tYes (temD X.prog X.w X.K tk tv D) σ (own.map fun p : Str × Nat => p.2) (fun H => Q (.ref D) H) J H0)
    hN I hi ok rfl hs (fun s Q E q => wpAny_newObj_type q) (fun H h hb => dn_empty _ _ _ h hb) h fun s3 H3 C cl fp it D tn J s4 R I4 T st4 hf nf ⟨W, ⟨m0, w0⟩, turn⟩ hR => ?_
  have loop : codeAny (model X.prog X.w) X.A (.compLoop (.DictComp ke ve [⟨tg, iter, [], 0⟩] scope pos) 0 (.ref it) (.ref D) (compEnvC scope cl C X.env)) R s4 := by
    refine compLoop_anyD (Lp (X.blk s3 H3 scope (compEnvC scope cl C X.env) fp) tn fp [] (wipe σ (own.map (·.2))) W) (fun n s h => ?_) m0 ⟨0, H3, I4, st4, nf, w0⟩
    refine thn (blk_turn (Y := X.blk s3 H3 scope (compEnvC scope cl C X.env) fp) T hc rfl hf turn (hg s3 H3 C cl fp) pts_nil _
      (emitD (Y := X.blk s3 H3 scope (compEnvC scope cl C X.env) fp) (D := D) (hk s3 H3 C cl fp) (hv s3 H3 C cl fp) rfl hu (notedBy (model X.prog X.w) X.A (compEnvC scope cl C X.env) fun e s' => R (.error e) s')) n s _ h) fun r s1 h1 => ?_
    cases r with
    | none =>
      obtain ⟨H5, I5, q5⟩ := h1
      exact hR _ _ I5 q5
    | some v => exact h1
  exact codeAny_compStart_dict loop (T.self X.A 0 _ _ _ st4 loop)
end
end K78

/-! text N8 -/
set_option Elab.async false
set_option linter.all false
set_option maxRecDepth 100000
set_option maxHeartbeats 2000000
namespace K78
open PySem PySem.Spec PyProof.Rows L2

/-! ### for x in zip(a, b): the tuples stay out -/
/-- a zip that may have handed out a tuple -/
def ZipG (h : Heap) (z TI TO : Addr) : Prop := ∃ (f0 : Value) (f : Bool), (f0 = .none ∨ ∃ T : Addr, f0 = rawInt T) ∧ h.get? z = some { cls := .type "zip", dict := none, data := .fields #[f0, .bool f, .bool false, .ref TI, .ref TO], slots := #[] }
section
variable {prog : Program} {w : World} {A : Around} {E : Value → Shared → Prop} {s : Shared} {z TI TO i1 i2 : Addr} {fp1 fp2 : List Addr} {n1 n2 i : Nat} {P1 P2 : Nat → Value → Prop} {St1 St2 : Nat → Heap → Prop}
theorem alive_any {a : Addr} {Q : Option Obj → Shared → Prop} (h : Q (s.heap.get? a) s) : wpAny (model prog w) A (loadIfAlive a) Q E s := fun _ _ _ => h
theorem own_free {Q : Bool → Shared → Prop} (hz : ZipG s.heap z TI TO) (h : ∀ b h', ZipG h' z TI TO → Heap.SameBut z s.heap h' → Q b { s with heap := h' }) : wpAny (model prog w) A (Builtin.SmallTypes.ownedTupleIsFree (.ref z)) Q E s := by
  obtain ⟨f0, f, h0, hz⟩ := hz
  unfold Builtin.SmallTypes.ownedTupleIsFree
  rcases h0 with rfl | ⟨T, rfl⟩
  · exact wpAny_bind (wpAny_field hz rfl (x := .none) rfl (wpAny_pure (h true s.heap ⟨_, _, .inl rfl, hz⟩ (Heap.SameBut.refl _ _))))
  · refine wpAny_bind (wpAny_field hz rfl (x := rawInt T) rfl ?_)
    show wpAny _ _ (loadIfAlive ((T : Int).toNat) >>= _) _ _ _
    rw [Int.toNat_natCast]
    refine wpAny_bind (alive_any ?_)
    cases s.heap.get? T with
    | none => exact wpAny_pure (h true s.heap ⟨_, _, .inr ⟨T, rfl⟩, hz⟩ (Heap.SameBut.refl _ _))
    | some o =>
      simp only [Option.isNone_some, Bool.false_eq_true, if_false]
      refine wpAny_bind (wpAny_field hz rfl (x := .bool f) rfl ?_)
      cases f with
      | true =>
        rw [if_neg (show ¬ ((Value.bool true != Value.bool true) = true) from Bool.false_ne_true)]
        exact wpAny_pure (h false s.heap ⟨_, _, .inr ⟨T, rfl⟩, hz⟩ (Heap.SameBut.refl _ _))
      | false =>
        rw [if_pos (show (Value.bool false != Value.bool true) = true from rfl)]
        exact wpAny_bind (wpAny_setField_rec hz (by simp) fun h₁ hz₁ hs₁ => wpAny_pure (h false h₁ ⟨_, _, .inr ⟨T, rfl⟩, hz₁⟩ hs₁))
theorem zipG_next_item {Q : Value → Shared → Prop} (S : ZipSep2 z TI TO i1 i2 fp1 fp2) (D1 : Draws prog w A i1 fp1 n1 P1 St1) (D2 : Draws prog w A i2 fp2 n2 P2 St2)
    (hz : ZipG s.heap z TI TO) (hTI : IsTupOf2 s.heap TI (.ref i1) (.ref i2)) (hTO : ∃ a1 a2, IsTupOf2 s.heap TO a1 a2) (st1 : St1 i s.heap) (st2 : St2 i s.heap) (hlt1 : i < n1) (hlt2 : i < n2)
    (hQ : ∀ x1 x2 h' tk, P1 i x1 → P2 i x2 → ZipG h' z TI TO → (∃ a1 a2, IsTupOf2 h' TO a1 a2) → St1 (i + 1) h' → St2 (i + 1) h' → IsTupOf2 h' s.heap.objs.size x1 x2 →
      (∀ c o, c ≠ z → c ≠ TO → c ≠ i1 → c ≠ i2 → s.heap.get? c = some o → h'.get? c = some o) → Q (.ref s.heap.objs.size) { s with heap := h', toks := tk }) :
    wpAny (model prog w) A (Builtin.«zip.__next__» ⟨[.ref z], []⟩) (fun fin s' => ∃ v, fin = .done (.ret v) ∧ Q v s') E s := by
  obtain ⟨hp, g, d, tk0, os⟩ := s
  have hz0 := hz
  obtain ⟨f0, f, h0, hz⟩ := hz
  show wpAny _ _ (field (.ref z) 2 >>= _) _ _ _
  refine wpAny_bind (wpAny_field hz rfl (x := .bool false) rfl ?_)
  show wpAny _ _ (field (.ref z) 3 >>= _) _ _ _
  refine wpAny_bind (wpAny_field hz rfl (x := .ref TI) rfl ?_)
  refine wpAny_bind (wpAny_seqItems hTI rfl ?_)
  show wpAny _ _ (Builtin.SmallTypes.ownedTupleIsFree (.ref z) >>= _) _ _ _
  refine wpAny_bind (own_free hz0 fun b k0 zk0 sk0 => ?_)
  clear hz0 hz h0
  replace sk0 : Heap.SameBut z hp k0 := sk0
  obtain ⟨a1, a2, hTO⟩ := hTO
  replace hTO : IsTupOf2 hp TO a1 a2 := hTO
  replace st1 : St1 i hp := st1
  replace st2 : St2 i hp := st2
  obtain ⟨f0, f, h0, hz⟩ := id zk0
  cases b with
  | false =>
    simp only [Bool.false_eq_true, if_false]
    refine wpAny_bind ?_
    rw [← Array.forIn_toList]
    simp only [List.forIn_cons, List.forIn_nil]
    refine wpAny_bind (wpAny_bind (wpAny_holding ?_))
    show wpAny _ _ (Builtin.SmallTypes.nextOf (.ref i1) >>= _) _ _ ⟨k0, g, d, tk0, os⟩
    refine wpAny_bind (D1.item i _ _ _ hlt1 (D1.over st1 sk0 S.zf1) fun x1 p1 tk1 hx1 sn1 hp1 => wpAny_pure ?_)
    replace hp1 : Heap.SameBut i1 k0 p1 := hp1
    refine wpAny_pure ?_
    refine wpAny_bind (wpAny_bind (wpAny_holding ?_))
    show wpAny _ _ (Builtin.SmallTypes.nextOf (.ref i2) >>= _) _ _ ⟨p1, g, d, tk1, os⟩
    refine wpAny_bind (D2.item i _ _ _ hlt2 (D2.over (D2.over st2 sk0 S.zf2) hp1 S.sep1_2) fun x2 p2 tk2 hx2 sn2 hp2 => wpAny_pure ?_)
    replace hp2 : Heap.SameBut i2 p1 p2 := hp2
    refine wpAny_pure (wpAny_pure ?_)
    show wpAny _ _ (newTuple [x1, x2] >>= _) _ _ ⟨p2, g, d, tk2, os⟩
    refine wpAny_bind (wpAny_newTuple ?_)
    have hsz : p2.objs.size = hp.objs.size := by rw [hp2.1, hp1.1, sk0.1]
    refine wpAny_pure ⟨_, rfl, ?_⟩
    show Q (.ref p2.objs.size) ⟨p2.push { cls := .type "tuple", data := .seq #[x1, x2] }, g, d, tk2, os⟩
    have hT : IsTupOf2 (p2.push { cls := .type "tuple", data := .seq #[x1, x2] }) p2.objs.size x1 x2 := Heap.get?_push_size _ rfl
    have up : ∀ c o, p2.get? c = some o → (p2.push { cls := .type "tuple", data := .seq #[x1, x2] }).get? c = some o := fun c o e => Heap.get?_push_of_some _ e
    have hzz : ZipG (p2.push { cls := .type "tuple", data := .seq #[x1, x2] }) z TI TO := ⟨f0, f, h0, up _ _ (hp2.extBut _ _ S.zi2 (hp1.extBut _ _ S.zi1 hz))⟩
    rw [hsz] at hT ⊢
    exact hQ x1 x2 _ tk2 hx1 hx2 hzz ⟨a1, a2, up _ _ (hp2.extBut _ _ S.Ti2 (hp1.extBut _ _ S.Ti1 (sk0.extBut _ _ S.TOz hTO)))⟩
      (D1.frame _ _ _ (D1.over sn1 hp2 S.sep2_1) fun b _ o e => up b o e) (D2.frame _ _ _ sn2 fun b _ o e => up b o e) hT
      fun c o cz cT c1 c2 e => up c o (hp2.extBut _ _ c2 (hp1.extBut _ _ c1 (sk0.extBut _ _ cz e)))
  | true =>
    simp only [if_true]
    refine wpAny_bind (wpAny_rule ?_)
    refine wpAny_bind (wpAny_field hz rfl (x := .ref TO) rfl ?_)
    refine wpAny_bind (wpAny_setField_rec hz (by simp) fun g0 hz0 hs0 => ?_)
    replace hs0 : Heap.SameBut z k0 g0 := hs0
    refine wpAny_bind ?_
    simp only [List.zipIdx_cons, List.zipIdx_nil, List.forIn_cons, List.forIn_nil]
    refine wpAny_bind (wpAny_bind (wpAny_onRaise ?_))
    show wpAny _ _ (Builtin.SmallTypes.nextOf (.ref i1) >>= _) _ _ ⟨g0, g, d, tk0, os⟩
    refine wpAny_bind (D1.item i _ _ _ hlt1 (D1.over (D1.over st1 sk0 S.zf1) hs0 S.zf1) fun x1 p1 tk1 hx1 sn1 hp1 => wpAny_pure ?_)
    replace hp1 : Heap.SameBut i1 g0 p1 := hp1
    have hU1 : IsTupOf2 p1 TO a1 a2 := hp1.extBut _ _ S.Ti1 (hs0.extBut _ _ S.TOz (sk0.extBut _ _ S.TOz hTO))
    refine wpAny_bind (wpAny_seqItems (s := ⟨p1, g, d, tk1, os⟩) hU1 rfl ?_)
    refine wpAny_bind (updateSeq_IsTupOf2 (s := ⟨p1, g, d, tk1, os⟩) hU1 fun g1 hT1 hs1 => ?_)
    replace hT1 : IsTupOf2 g1 TO x1 a2 := hT1
    replace hs1 : Heap.SameBut TO p1 g1 := hs1
    refine wpAny_bind (wpAny_letGo (wpAny_pure ?_))
    refine wpAny_bind (wpAny_bind (wpAny_onRaise ?_))
    show wpAny _ _ (Builtin.SmallTypes.nextOf (.ref i2) >>= _) _ _ ⟨g1, g, d, tk1, os⟩
    refine wpAny_bind (D2.item i _ _ _ hlt2 (D2.over (D2.over (D2.over (D2.over st2 sk0 S.zf2) hs0 S.zf2) hp1 S.sep1_2) hs1 S.Tf2) fun x2 p2 tk2 hx2 sn2 hp2 => wpAny_pure ?_)
    replace hp2 : Heap.SameBut i2 g1 p2 := hp2
    have hU2 : IsTupOf2 p2 TO x1 a2 := hp2.extBut _ _ S.Ti2 hT1
    refine wpAny_bind (wpAny_seqItems (s := ⟨p2, g, d, tk2, os⟩) hU2 rfl ?_)
    refine wpAny_bind (updateSeq_IsTupOf2 (s := ⟨p2, g, d, tk2, os⟩) hU2 fun g2 hT2 hs2 => ?_)
    replace hT2 : IsTupOf2 g2 TO x1 x2 := hT2
    replace hs2 : Heap.SameBut TO p2 g2 := hs2
    refine wpAny_bind (wpAny_letGo (wpAny_pure (wpAny_pure ?_)))
    refine wpAny_bind (wpAny_seqItems (s := ⟨g2, g, d, tk2, os⟩) hT2 rfl ?_)
    refine wpAny_bind (wpAny_newTuple ?_)
    have hsz : g2.objs.size = hp.objs.size := by rw [hs2.1, hp2.1, hs1.1, hp1.1, hs0.1, sk0.1]
    have hzz := hs2.extBut _ _ S.TOz.symm (hp2.extBut _ _ S.zi2 (hs1.extBut _ _ S.TOz.symm (hp1.extBut _ _ S.zi1 hz0)))
    have hkk : ∀ c o, c ≠ z → c ≠ TO → c ≠ i1 → c ≠ i2 → hp.get? c = some o → g2.get? c = some o := fun c o cz cT c1 c2 e =>
      hs2.extBut _ _ cT (hp2.extBut _ _ c2 (hs1.extBut _ _ cT (hp1.extBut _ _ c1 (hs0.extBut _ _ cz (sk0.extBut _ _ cz e)))))
    have hj1 : St1 (i + 1) g2 := D1.over (D1.over (D1.over sn1 hs1 S.Tf1) hp2 S.sep2_1) hs2 S.Tf1
    have hj2 : St2 (i + 1) g2 := D2.over sn2 hs2 S.Tf2
    have hzlt : z < g2.objs.size := Heap.lt_size hzz
    show wpAny _ _ (Builtin.SmallTypes.ownedTupleHandOut (.ref z) (.ref g2.objs.size) >>= _) _ _ ⟨g2.push { cls := .type "tuple", data := .seq #[x1, x2] }, g, d, tk2, os⟩
    refine wpAny_bind ?_
    unfold Builtin.SmallTypes.ownedTupleHandOut
    refine wpAny_bind (wpAny_setField_rec (s := ⟨g2.push { cls := .type "tuple", data := .seq #[x1, x2] }, g, d, tk2, os⟩) (Heap.get?_push_of_some _ hzz) (by simp) fun h₇ hz₇ hs₇ => ?_)
    refine wpAny_setField_rec hz₇ (by simp) fun h₈ hz₈ hs₈ => ?_
    replace hs₇ : Heap.SameBut z (g2.push { cls := .type "tuple", data := .seq #[x1, x2] }) h₇ := hs₇
    replace hs₈ : Heap.SameBut z h₇ h₈ := hs₈
    have up : ∀ c o, c ≠ z → g2.get? c = some o → h₈.get? c = some o := fun c o c1 e => hs₈.extBut _ _ c1 (hs₇.extBut _ _ c1 (Heap.get?_push_of_some _ e))
    have hT₈ : IsTupOf2 h₈ g2.objs.size x1 x2 := hs₈.extBut _ _ (Nat.ne_of_gt hzlt) (hs₇.extBut _ _ (Nat.ne_of_gt hzlt) (Heap.get?_push_size _ rfl))
    have hzG : ZipG h₈ z TI TO := ⟨rawInt g2.objs.size, false, .inr ⟨_, rfl⟩, hz₈⟩
    rw [hsz] at hT₈
    refine wpAny_pure ⟨_, rfl, ?_⟩
    show Q (.ref g2.objs.size) ⟨h₈, g, d, tk2, os⟩
    rw [hsz]
    exact hQ x1 x2 h₈ tk2 hx1 hx2 hzG ⟨_, _, up _ _ S.TOz hT2⟩ (D1.frame _ _ _ hj1 fun b hb o e => up b o (fun q => S.zf1 (q ▸ hb)) e) (D2.frame _ _ _ hj2 fun b hb o e => up b o (fun q => S.zf2 (q ▸ hb)) e) hT₈ fun c o cz cT c1 c2 e => up c o cz (hkk c o cz cT c1 c2 e)
theorem zipG_next_end {Q : Fin → Shared → Prop} (S : ZipSep2 z TI TO i1 i2 fp1 fp2) (D1 : Draws prog w A i1 fp1 n1 P1 St1) (D2 : Draws prog w A i2 fp2 n1 P2 St2)
    (hz : ZipG s.heap z TI TO) (hTI : IsTupOf2 s.heap TI (.ref i1) (.ref i2)) (st1 : St1 n1 s.heap)
    (hE : ∀ h' e, (∀ c o, c ≠ z → c ≠ TO → c ≠ i1 → c ≠ i2 → s.heap.get? c = some o → h'.get? c = some o) → (∃ o, h'.get? e = some o ∧ o.cls = .type "StopIteration") → E (.ref e) { s with heap := h' }) :
    wpAny (model prog w) A (Builtin.«zip.__next__» ⟨[.ref z], []⟩) Q E s := by
  obtain ⟨hp, g, d, tk0, os⟩ := s
  have hz0 := hz
  obtain ⟨f0, f, h0, hz⟩ := hz
  show wpAny _ _ (field (.ref z) 2 >>= _) _ _ _
  refine wpAny_bind (wpAny_field hz rfl (x := .bool false) rfl ?_)
  show wpAny _ _ (field (.ref z) 3 >>= _) _ _ _
  refine wpAny_bind (wpAny_field hz rfl (x := .ref TI) rfl ?_)
  refine wpAny_bind (wpAny_seqItems hTI rfl ?_)
  show wpAny _ _ (Builtin.SmallTypes.ownedTupleIsFree (.ref z) >>= _) _ _ _
  refine wpAny_bind (own_free hz0 fun b k0 zk0 sk0 => ?_)
  clear hz0 hz h0
  replace sk0 : Heap.SameBut z hp k0 := sk0
  replace st1 : St1 n1 hp := st1
  obtain ⟨f0, f, h0, hz⟩ := id zk0
  cases b with
  | false =>
    simp only [Bool.false_eq_true, if_false]
    refine wpAny_bind ?_
    rw [← Array.forIn_toList]
    simp only [List.forIn_cons, List.forIn_nil]
    refine wpAny_bind (wpAny_bind (wpAny_holding ?_))
    show wpAny _ _ (Builtin.SmallTypes.nextOf (.ref i1) >>= _) _ _ ⟨k0, g, d, tk0, os⟩
    refine wpAny_bind (D1.done ⟨k0, g, d, tk0, os⟩ _ _ (D1.over st1 sk0 S.zf1) fun q e hq he => ?_)
    exact hE q e (fun c o cz _ c1 _ x => hq _ _ c1 (sk0.extBut _ _ cz x)) he
  | true =>
    simp only [if_true]
    refine wpAny_bind (wpAny_rule ?_)
    refine wpAny_bind (wpAny_field hz rfl (x := .ref TO) rfl ?_)
    refine wpAny_bind (wpAny_setField_rec hz (by simp) fun g0 hz0 hs0 => ?_)
    replace hs0 : Heap.SameBut z k0 g0 := hs0
    refine wpAny_bind ?_
    simp only [List.zipIdx_cons, List.zipIdx_nil, List.forIn_cons, List.forIn_nil]
    refine wpAny_bind (wpAny_bind (wpAny_onRaise ?_))
    show wpAny _ _ (Builtin.SmallTypes.nextOf (.ref i1) >>= _) _ _ ⟨g0, g, d, tk0, os⟩
    refine wpAny_bind (D1.done ⟨g0, g, d, tk0, os⟩ _ _ (D1.over (D1.over st1 sk0 S.zf1) hs0 S.zf1) fun q e hq he => ?_)
    replace hq : Heap.ExtBut i1 g0 q := hq
    obtain ⟨oe, hoe, hce⟩ := he
    replace hoe : q.get? e = some oe := hoe
    have hzq := hq _ _ S.zi1 hz0
    have hez : e ≠ z := fun x => by subst x; rw [hzq] at hoe; cases hoe; simp at hce
    refine wpAny_setField_rec (s := ⟨q, g, d, tk0, os⟩) hzq (by simp) fun q' _ hq' => ?_
    replace hq' : Heap.SameBut z q q' := hq'
    exact hE q' e (fun c o cz cT c1 c2 x => hq'.extBut _ _ cz (hq _ _ c1 (hs0.extBut _ _ cz (sk0.extBut _ _ cz x)))) ⟨oe, hq'.extBut _ _ hez hoe, hce⟩
theorem pyNext_zipG_item {Q : Option Value → Shared → Prop} (S : ZipSep2 z TI TO i1 i2 fp1 fp2) (D1 : Draws prog w A.in1 i1 fp1 n1 P1 St1) (D2 : Draws prog w A.in1 i2 fp2 n2 P2 St2)
    (hz : ZipG s.heap z TI TO) (hTI : IsTupOf2 s.heap TI (.ref i1) (.ref i2)) (hTO : ∃ a1 a2, IsTupOf2 s.heap TO a1 a2) (st1 : St1 i s.heap) (st2 : St2 i s.heap) (hlt1 : i < n1) (hlt2 : i < n2)
    (hQ : ∀ x1 x2 h' tk, P1 i x1 → P2 i x2 → ZipG h' z TI TO → (∃ a1 a2, IsTupOf2 h' TO a1 a2) → St1 (i + 1) h' → St2 (i + 1) h' → IsTupOf2 h' s.heap.objs.size x1 x2 →
      (∀ c o, c ≠ z → c ≠ TO → c ≠ i1 → c ≠ i2 → s.heap.get? c = some o → h'.get? c = some o) → Q (some (.ref s.heap.objs.size)) { s with heap := h', toks := tk }) :
    wpAny (model prog w) A (pyNext (.ref z)) Q E s := by
  have hT : s.TypeIs (.ref z) "zip" := by
    obtain ⟨f0, f, _, hz⟩ := hz
    exact ⟨_, hz, rfl⟩
  unfold pyNext
  exact wpAny_bind (wpAny_attempt (wpAny_callSpecial?_slot (name := Str.ofString "__next__") hT F.slot_zip_next
    (wpAny_call_entry F.slot_zip_next hT F.entry_zip_next
      (zipG_next_item S D1 D2 hz hTI hTO st1 st2 hlt1 hlt2 fun x1 x2 h' tk y1 y2 b1 b2 d1 d2 b5 b7 => wpAny_pure (hQ x1 x2 h' tk y1 y2 b1 b2 d1 d2 b5 b7)) (F.args_zip_next_1 _))))
theorem pyNext_zipG_end {Q : Option Value → Shared → Prop} (S : ZipSep2 z TI TO i1 i2 fp1 fp2) (D1 : Draws prog w A.in1 i1 fp1 n1 P1 St1) (D2 : Draws prog w A.in1 i2 fp2 n1 P2 St2)
    (hz : ZipG s.heap z TI TO) (hTI : IsTupOf2 s.heap TI (.ref i1) (.ref i2)) (st1 : St1 n1 s.heap)
    (hQ : ∀ h', (∀ c o, c ≠ z → c ≠ TO → c ≠ i1 → c ≠ i2 → s.heap.get? c = some o → h'.get? c = some o) → Q none { s with heap := h' }) : wpAny (model prog w) A (pyNext (.ref z)) Q E s := by
  have hT : s.TypeIs (.ref z) "zip" := by
    obtain ⟨f0, f, _, hz⟩ := hz
    exact ⟨_, hz, rfl⟩
  unfold pyNext
  refine wpAny_bind (wpAny_attempt (wpAny_callSpecial?_slot (name := Str.ofString "__next__") hT F.slot_zip_next
    (wpAny_call_entry F.slot_zip_next hT F.entry_zip_next (zipG_next_end S D1 D2 hz hTI st1 fun h' e hk he => ?_) (F.args_zip_next_1 _))))
  obtain ⟨o, ho, hc⟩ := he
  refine wpAny_bind (wpAny_isInstance (T := "StopIteration") (b := true) ⟨o, ho, hc⟩ isSubtype_stop ?_)
  exact wpAny_pure (hQ _ hk)
end
end K78

/-! text N9 -/
set_option Elab.async false
set_option linter.all false
set_option maxRecDepth 100000
set_option maxHeartbeats 2000000
namespace K78
open PySem PySem.Spec PyProof.Rows L2

/-! ### zip of two tuples, of two lists, of one length each -/
def sqB (K : PySem.W.Frag) : Bool → Hp → Addr → List V → Prop
  | true => SqT K
  | false => SqL K
def isB : Bool → Heap → Addr → Array Value → Prop
  | true => Heap.IsTuple
  | false => Heap.IsList
def itB : Bool → Heap → Addr → Addr → Nat → Prop
  | true => Heap.IsTupleIter
  | false => Heap.IsListIter
theorem isB_get {X : Cx} {pins : List (Addr × Obj)} {σ : L2.St} {H : Hp} {s : Shared} {a : Addr} {xs : List V} {t : Bool} (I : Inv X pins σ H s) (h : sqB X.K t H a xs) : ∃ its : List Value, Vals xs its ∧ isB t s.heap a its.toArray := by
  cases t with
  | true =>
    obtain ⟨its, r, p, _⟩ := I.tuple h
    exact ⟨its, r, p⟩
  | false =>
    obtain ⟨its, r, p, _⟩ := I.list h
    exact ⟨its, r, p.isList⟩
theorem itB_at {t : Bool} {h h' : Heap} {a l : Addr} {i : Nat} (x : itB t h a l i) (e : ∀ o, h.get? a = some o → h'.get? a = some o) : itB t h' a l i := by
  cases t with
  | true => exact Heap.IsTupleIter.at x e
  | false => exact Heap.IsListIter.at x e
theorem itB_obj {t : Bool} {h : Heap} {a l : Addr} {i : Nat} (x : itB t h a l i) : ∃ o, h.get? a = some o ∧ ∀ v, o.data ≠ .cell v := by
  cases t with
  | true =>
    obtain ⟨o, e, _, d⟩ := x
    exact ⟨o, e, fun v q => by rw [d] at q; cases q⟩
  | false =>
    obtain ⟨o, e, _, d⟩ := x
    exact ⟨o, e, fun v q => by rw [d] at q; cases q⟩
theorem isB_lt {t : Bool} {h : Heap} {a : Addr} {its : Array Value} (x : isB t h a its) : a < h.objs.size := by
  cases t with
  | true => obtain ⟨o, e, _⟩ := x; exact Heap.lt_size e
  | false => obtain ⟨o, e, _⟩ := x; exact Heap.lt_size e
theorem sqB_inj {X : Cx} {pins : List (Addr × Obj)} {σ : L2.St} {H : Hp} {s : Shared} {a : Addr} {xs ys : List V} {t : Bool} (I : Inv X pins σ H s) (h : sqB X.K t H a xs) (h' : sqB X.K t H a ys) : xs = ys := by
  cases t with
  | true => exact I.tuple_inj h h'
  | false => exact I.list_inj h h'
theorem drawsB {prog : Program} {w : World} {A : Around} (hh : A.handled = none) (t : Bool) (it l : Addr) (hne : l ≠ it) (items : Array Value) :
    Draws prog w A it [it, l] items.size (fun i v => items[i]? = some v) (fun i h => itB t h it l i ∧ isB t h l items) := by
  cases t with
  | true => exact Draws.tuple hh it l hne items
  | false => exact Draws.list hh it l hne items
/-- two sequences of one length as they stand at each turn, the items in new pairs -/
def ItZ (K : PySem.W.Frag) (t : Bool) (a b : Addr) : It :=
  ⟨fun i H => ∃ (xs ys : List V) (x y : V), sqB K t H a xs ∧ sqB K t H b ys ∧ xs[i]? = some x ∧ ys[i]? = some y,
    fun i H v H' => ∃ T x y, v = .ref T ∧ H T = none ∧ H' = upd H T (.tup [x, y]) ∧ (∀ xs, sqB K t H a xs → xs[i]? = some x) ∧ ∀ ys, sqB K t H b ys → ys[i]? = some y,
    fun i H => ∃ xs ys : List V, sqB K t H a xs ∧ sqB K t H b ys ∧ xs.length = i ∧ ys.length = i⟩
theorem turn_zipG {P : Program} {w : World} {K : PySem.W.Frag} {x : Str} {px : Pos} {t : Bool} {a b z TI TO i1 i2 : Addr} (D : ZipSep2 z TI TO i1 i2 [i1, a] [i2, b]) (ha : a ≠ i1) (hb : b ≠ i2) :
    Turn P w K (.Name x px) (ItZ K t a b) [z, TI, TO, i1, i2] z (fun i h => ZipG h z TI TO ∧ IsTupOf2 h TI (.ref i1) (.ref i2) ∧ (∃ x y, IsTupOf2 h TO x y) ∧ itB t h i1 a i ∧ itB t h i2 b i) where
  mem := by simp
  obj := fun i h st c hc => by
    obtain ⟨⟨f0, f, _, hz⟩, hTI, ⟨x, y, hTO⟩, h1, h2⟩ := st
    have e' : c = z ∨ c = TI ∨ c = TO ∨ c = i1 ∨ c = i2 := by simpa using hc
    rcases e' with q | q | q | q | q
    · rw [q]; exact ⟨_, hz, fun v q => nomatch q⟩
    · rw [q]; exact ⟨_, hTI, fun v q => nomatch q⟩
    · rw [q]; exact ⟨_, hTO, fun v q => nomatch q⟩
    · rw [q]; exact itB_obj h1
    · rw [q]; exact itB_obj h2
  keep := fun i h h' st k => by
    obtain ⟨⟨f0, f, h0, hz⟩, hTI, ⟨x, y, hTO⟩, h1, h2⟩ := st
    exact ⟨⟨f0, f, h0, k z (by simp) _ hz⟩, k TI (by simp) _ hTI, ⟨x, y, k TO (by simp) _ hTO⟩, itB_at h1 fun o q => k i1 (by simp) o q, itB_at h2 fun o q => k i2 (by simp) o q⟩
  item := by
    intro X hP hw hK hc i pins s σ H E I hf st hg
    subst hP hw hK
    obtain ⟨hz, hTI, hTO, h1, h2⟩ := st
    obtain ⟨xs, ys, x, y, hqx, hqy, hx, hy⟩ := hg
    obtain ⟨its, rv, p⟩ := isB_get I hqx
    obtain ⟨its2, rv2, p2⟩ := isB_get I hqy
    obtain ⟨u, hu, ru⟩ := rv.get hx
    obtain ⟨u2, hu2, ru2⟩ := rv2.get hy
    have l1 : i < its.toArray.size := by have := (List.getElem?_eq_some_iff.mp hu).1; simpa using this
    have l2 : i < its2.toArray.size := by have := (List.getElem?_eq_some_iff.mp hu2).1; simpa using this
    have hTy : ∀ c ∈ [z, TI, TO, i1, i2], c < s.heap.objs.size := fun c hc => by
      obtain ⟨⟨f0, f, _, hz⟩, _⟩ := And.intro hz trivial
      obtain ⟨_, _, hTO⟩ := hTO
      obtain ⟨o1, e1, _⟩ := itB_obj h1
      obtain ⟨o2, e2, _⟩ := itB_obj h2
      have e' : c = z ∨ c = TI ∨ c = TO ∨ c = i1 ∨ c = i2 := by simpa using hc
      rcases e' with q | q | q | q | q
      · rw [q]; exact Heap.lt_size hz
      · rw [q]; exact Heap.lt_size hTI
      · rw [q]; exact Heap.lt_size hTO
      · rw [q]; exact Heap.lt_size e1
      · rw [q]; exact Heap.lt_size e2
    refine pyNext_zipG_item D (drawsB (show X.A.in1.handled = none from I.ok.hd hc) t i1 a ha its.toArray) (drawsB (show X.A.in1.handled = none from I.ok.hd hc) t i2 b hb its2.toArray) hz hTI hTO ⟨h1, p⟩ ⟨h2, p2⟩ l1 l2 fun x1 x2 h' tk y1 y2 z' TO' st1' st2' hT hk => ?_
    obtain rfl : x1 = u := by
      have : its.toArray[i]? = some u := by simpa using hu
      rw [this] at y1; exact (Option.some.inj y1).symm
    obtain rfl : x2 = u2 := by
      have : its2.toArray[i]? = some u2 := by simpa using hu2
      rw [this] at y2; exact (Option.some.inj y2).symm
    refine ⟨_, rfl, wpAny_pure ?_⟩
    have new : ObjOk X.prog X.w (upd H s.heap.objs.size (.tup [x, y])) h' s.heap.objs.size (.tup [x, y]) :=
      ⟨by show 2 ≤ sizeLine; decide, [x1, x2], .cons ru (.cons ru2 .nil), ⟨_, hT, rfl, _, rfl⟩⟩
    have I1 : Inv X pins σ (upd H s.heap.objs.size (.tup [x, y])) { s with heap := h', toks := tk } :=
      I.turnedNew (t' := tk) (ch := [z, TI, TO, i1, i2]) (fun c o hb q => hk c o (fun q' => hb (by simp [q'])) (fun q' => hb (by simp [q'])) (fun q' => hb (by simp [q'])) (fun q' => hb (by simp [q'])) q) hf (Nat.le_refl _) new
    refine ⟨.ref s.heap.objs.size, _, I1, rfl, ⟨_, x, y, rfl, I.hok.fresh (Nat.le_refl _), rfl, fun l hl => by rw [sqB_inj I hl hqx]; exact hx, fun l hl => by rw [sqB_inj I hl hqy]; exact hy⟩, ⟨z', ?_, TO', st1'.1, st2'.1⟩, fun c hcm => ?_⟩
    · exact hk _ _ D.TIz D.TITO D.TIi1 D.TIi2 hTI
    · rw [upd_ne (Nat.ne_of_lt (hTy c hcm))]
      exact (hf c hcm).1
  done := by
    intro X hP hw hK hc i pins s σ H E I hf st hg
    subst hP hw hK
    obtain ⟨hz, hTI, hTO, h1, h2⟩ := st
    obtain ⟨xs, ys, hqx, hqy, e1, e2⟩ := hg
    obtain ⟨its, rv, p⟩ := isB_get I hqx
    obtain ⟨its2, rv2, p2⟩ := isB_get I hqy
    have l1 : its.toArray.size = i := by have := rv.length; simp; omega
    have l2 : its2.toArray.size = i := by have := rv2.length; simp; omega
    have D1 := drawsB (prog := X.prog) (w := X.w) (show X.A.in1.handled = none from I.ok.hd hc) t i1 a ha its.toArray
    have D2 := drawsB (prog := X.prog) (w := X.w) (show X.A.in1.handled = none from I.ok.hd hc) t i2 b hb its2.toArray
    rw [l1] at D1
    rw [l2] at D2
    exact pyNext_zipG_end D D1 D2 hz hTI ⟨h1, p⟩ fun h' hk => ⟨rfl, I.turnedL (t' := s.toks) (ch := [z, TI, TO, i1, i2]) (fun c o hb q =>
      hk c o (fun q' => hb (by simp [q'])) (fun q' => hb (by simp [q'])) (fun q' => hb (by simp [q'])) (fun q' => hb (by simp [q'])) q) hf⟩
  self := fun A i s Q E st h => by
    obtain ⟨⟨f0, f, _, hz⟩, _⟩ := st
    have hT : s.TypeIs (.ref z) "zip" := ⟨_, hz, rfl⟩
    refine wpAny_pyIter_slot hT F.slot_zip_iter (wpAny_call_entry F.slot_zip_iter hT F.entry_zip_iter ?_ (F.args_zip_iter_1 _))
    show wpAny _ _ (ret (.ref z)) _ _ s
    exact wpAny_pure ⟨_, rfl, "zip", _, hT, F.slot_zip_next.lookup, h⟩

def iZipG (K : PySem.W.Frag) (t : Bool) (ta : TA) : TI := fun σ H R => ta σ H fun vs H1 => ∃ a b xs ys, vs = [.ref a, .ref b] ∧ sqB K t H1 a xs ∧ sqB K t H1 b ys ∧ R (ItZ K t a b) H1
theorem pi_zipG {X : Cx} {e e2 : Expr} {ta : TA} {x : Str} {px p pos : Pos} (K : PySem.W.Frag) (t : Bool) (hg : Gl X "zip") (hm : X.mg "zip" = none) (ha : PA X [e, e2] ta)
    (hs : starEach [e, e2] X.env = (false, eval e X.env) :: starEach [e2] X.env := by rfl) (hpl : (backTo pos (starEach [e2] X.env)).any (·.1) = false := by rfl) (h : X.K = K := by rfl) :
    PI X (.Name x px) (.Call (.Name "zip" p) [e, e2] [] pos) (iZipG K t ta) := by
  subst h
  refine ⟨fun pins s σ H R I h => ?_⟩
  refine Call_ (ld_blt I hg hm PyProof.Rows.boot_zip (PyProof.Rows.callWith_type1 (thn (ha.run pos pins s σ H _ I h) fun us s1 ⟨vs, H1, I1, r1, q1⟩ => ?_) hs hpl))
  obtain ⟨a, b, xs, ys, ex, hqx, hqy, q⟩ := q1
  subst ex
  cases r1 with
  | cons r rr =>
    cases rr with
    | cons r' rr =>
      cases rr
      cases r
      cases r'
      have fresh5 : ∀ c, c ∈ [s1.heap.objs.size + 4, s1.heap.objs.size + 2, s1.heap.objs.size + 3, s1.heap.objs.size, s1.heap.objs.size + 1] → FpOk X pins H1 c := fun c hcm => by
        have e' : c = s1.heap.objs.size + 4 ∨ c = s1.heap.objs.size + 2 ∨ c = s1.heap.objs.size + 3 ∨ c = s1.heap.objs.size ∨ c = s1.heap.objs.size + 1 := by simpa using hcm
        have hle : s1.heap.objs.size ≤ c := by
          rcases e' with z | z | z | z | z
          · rw [z]; exact Nat.le_add_right _ _
          · rw [z]; exact Nat.le_add_right _ _
          · rw [z]; exact Nat.le_add_right _ _
          · rw [z]; exact Nat.le_refl _
          · rw [z]; exact Nat.le_add_right _ _
        exact I1.fpOk hle (I1.hok.fresh hle)
      obtain ⟨its, rv, p1⟩ := isB_get I1 hqx
      obtain ⟨its2, rv2, p2⟩ := isB_get I1 hqy
      have la := isB_lt p1
      have lb := isB_lt p2
      have sep : ZipSep2 (s1.heap.objs.size + 4) (s1.heap.objs.size + 2) (s1.heap.objs.size + 3) s1.heap.objs.size (s1.heap.objs.size + 1) [s1.heap.objs.size, a] [s1.heap.objs.size + 1, b] :=
        zip_sep2 (fun c hc => by simp at hc; rw [hc]; exact la) (fun c hc => by simp at hc; rw [hc]; exact lb)
      have T := turn_zipG (P := X.prog) (w := X.w) (K := X.K) (x := x) (px := px) (t := t) sep (Nat.ne_of_lt la) (Nat.ne_of_lt (Nat.lt_succ_of_lt lb))
      have fin : ∀ h', IsZip h' (s1.heap.objs.size + 4) (s1.heap.objs.size + 2) (s1.heap.objs.size + 3) .none → IsPair h' (s1.heap.objs.size + 2) (.ref s1.heap.objs.size) (.ref (s1.heap.objs.size + 1)) → IsPair h' (s1.heap.objs.size + 3) .none .none →
          itB t h' s1.heap.objs.size a 0 → itB t h' (s1.heap.objs.size + 1) b 0 → (∀ c o, s1.heap.get? c = some o → h'.get? c = some o) → PIE X pins σ (.Name x px) R (.ref (s1.heap.objs.size + 4)) { s1 with heap := h' } := fun h' hz hTI hTO h1 h2 hk =>
        ⟨s1.heap.objs.size + 4, _, _, _, H1, rfl, I1.kept (t' := s1.toks) hk, T, ⟨⟨.none, false, .inl rfl, hz⟩, hTI, ⟨_, _, hTO⟩, h1, h2⟩, fresh5, q⟩
      cases t with
      | true => exact RZ.call_zipT p1 p2 fun h' hz hTI hTO h1 h2 hsz hk => wpAny_pyIter_zip hz (fin h' hz hTI hTO h1 h2 hk)
      | false => exact call_zip_2 p1 p2 fun h' hz hTI hTO h1 h2 hsz hk => wpAny_pyIter_zip hz (fin h' hz hTI hTO h1 h2 hk)
/-- a loop over it -/
theorem for_zipG {K : PySem.W.Frag} {t : Bool} {a b : Addr} {xs ys : List V} {g : TG} {tb : TS} {D : Ends} {σ : L2.St} {H : Hp} (hl : xs.length = ys.length) (Pv : Nat → L2.St → Hp → Prop) (h0 : Pv 0 σ H) (hq : ∀ i σ H, Pv i σ H → sqB K t H a xs ∧ sqB K t H b ys)
    (hs : ∀ (i : Nat) (x y : V) (T : Addr) (σ : L2.St) (H : Hp), xs[i]? = some x → ys[i]? = some y → Pv i σ H → H T = none → g (.ref T) σ (upd H T (.tup [x, y])) fun σ2 H2 => tb { D with nx := Pv (i + 1), ct := Pv (i + 1), bk := D.nx } σ2 H2) (hd : ∀ σ H, Pv xs.length σ H → D.nx σ H) :
    ∃ W : Nat → Nat → L2.St → Hp → Prop, (∃ m, W 0 m σ H) ∧ ∀ i m σ H, W i m σ H →
      ((ItZ K t a b).stop i H ∧ D.nx σ H) ∨ ((ItZ K t a b).go i H ∧ ∃ N : L2.St → Hp → Prop, (∀ σ' H', N σ' H' → ∃ m', m' < m ∧ W (i + 1) m' σ' H') ∧ ∀ v H', (ItZ K t a b).yld i H v H' → g v σ H' fun σ2 H2 => tb { D with nx := N, ct := N, bk := D.nx } σ2 H2) := by
  refine ⟨fun i m σ H => m = xs.length - i ∧ i ≤ xs.length ∧ Pv i σ H, ⟨xs.length, rfl, Nat.zero_le _, h0⟩, ?_⟩
  rintro i m σ H ⟨rfl, hi, p⟩
  obtain ⟨qx, qy⟩ := hq i σ H p
  by_cases hlt : i < xs.length
  · have hx : xs[i]? = some xs[i] := List.getElem?_eq_getElem hlt
    have hlt2 : i < ys.length := by omega
    have hy : ys[i]? = some ys[i] := List.getElem?_eq_getElem hlt2
    refine .inr ⟨⟨xs, ys, _, _, qx, qy, hx, hy⟩, Pv (i + 1), fun σ' H' p' => ⟨xs.length - (i + 1), by omega, rfl, hlt, p'⟩, fun v H' y => ?_⟩
    obtain ⟨T, x', y', rfl, hT, rfl, f1, f2⟩ := y
    exact hs i x' y' T σ H (f1 xs qx) (f2 ys qy) p hT
  · have e : i = xs.length := by omega
    subst e
    exact .inl ⟨⟨xs, ys, qx, qy, rfl, by omega⟩, hd σ H p⟩
end K78

/-! text KT -/
set_option Elab.async false
set_option linter.all false
set_option maxRecDepth 100000
set_option maxHeartbeats 1000000
namespace K78
open PySem PySem.Spec PyProof.Rows L2
/-! the text by places -/
def top (i : Nat) : Stmt := PySem.Challenge.pw_endsandround_k78_whole_rows_read_from_th.main.body.getD i (.Pass ⟨0, 0, 0, 0⟩)
abbrev s_is_integer : Stmt := top 5
abbrev s_is_number : Stmt := top 6
abbrev s_is_sequence : Stmt := top 7
abbrev s_is_index : Stmt := top 8
abbrev s_followed : Stmt := top 11
abbrev s_single_effects : Stmt := top 12
abbrev s_all_effects : Stmt := top 14
abbrev s_mirrored : Stmt := top 15
abbrev s_onward : Stmt := top 17
abbrev s_all_behind : Stmt := top 18
abbrev s_at_count : Stmt := top 19
abbrev s_coarser : Stmt := top 20
abbrev s_all_joined : Stmt := top 21
abbrev s_layers_of : Stmt := top 22
abbrev s_opened : Stmt := top 25
abbrev s_carried : Stmt := top 26
abbrev s_pairs_after : Stmt := top 27
abbrev s_unlike_commands : Stmt := top 28
abbrev s_rounds : Stmt := top 29
abbrev s_clashing : Stmt := top 31
abbrev s_lets : Stmt := top 32
abbrev s_may_exchange : Stmt := top 33
abbrev s_primes_of : Stmt := top 34
abbrev s_numbers : Stmt := top 35
abbrev s_l_draw : Stmt := top 37
abbrev s_l_any : Stmt := top 38
abbrev s_l_of : Stmt := top 39
abbrev s_l_mixed : Stmt := top 40
abbrev s_l_view : Stmt := top 41
abbrev s_l_first : Stmt := top 42
abbrev s_l_last : Stmt := top 43
abbrev s_l_wheel : Stmt := top 44
abbrev s_l_named : Stmt := top 45
abbrev s_l_awaited : Stmt := top 46
abbrev s_l_built : Stmt := top 47
abbrev s_l_machine : Stmt := top 48
abbrev s_l_led : Stmt := top 49
abbrev s_l_carried : Stmt := top 50
abbrev s_l_may : Stmt := top 51
abbrev s_l_end : Stmt := top 52
abbrev s_l_effect : Stmt := top 53
abbrev s_l_steps : Stmt := top 54
abbrev s_l_effects : Stmt := top 55
abbrev s_l_mirror : Stmt := top 56
abbrev s_law : Stmt := top 57
abbrev s_init : Stmt := inClass (top 10) 0
/-- the built-in names are free, the class is there -/
structure Txt (K : PySem.W.Frag) (mg : Str → Option Value) (C : Addr) : Prop where
  f_isinstance : mg "isinstance" = none
  f_int : mg "int" = none
  f_bool : mg "bool" = none
  f_list : mg "list" = none
  f_tuple : mg "tuple" = none
  f_len : mg "len" = none
  f_enumerate : mg "enumerate" = none
  f_all : mg "all" = none
  f_range : mg "range" = none
  f_sorted : mg "sorted" = none
  f_zip : mg "zip" = none
  f_min : mg "min" = none
  f_max : mg "max" = none
  f_abs : mg "abs" = none
  f_repr : mg "repr" = none
  most : ∃ t, mg "MOST_ROUNDS" = some (.int 5000 t)
  mC : mg "Machine" = some (.ref C)
  cl : Cls K C
  nC : NoAttr K C "commands"
  nS : NoAttr K C "states"
  nT : NoAttr K C "steps"
abbrev FnP (K : PySem.W.Frag) (x : Str) (st : Stmt) (f : Addr) (fd : FuncData) : Prop := FunD K x x (defArgs st) (defBody st) (defScope st) [] [] f fd
/-- the def st stands under its name -/
structure HasD (K : PySem.W.Frag) (mg : Str → Option Value) (x : Str) (st : Stmt) : Prop where
  ex : ∃ f fd, mg x = some (.ref f) ∧ FnP K x st f fd
section
variable {P : Program} {w : World} {K : PySem.W.Frag} {mg : Str → Option Value} {base : Heap}
theorem mkDef {x : Str} {st : Stmt} {N ps : List Str} {k : Nat} {sp : Sp} (F : HasD K mg x st) (S : FnScope N ps (defScope st))
    (hb : ∀ (kV doc pm : Value) (an : Option Addr) (cdv ct : Value) (us : List Value), us.length = ps.length → bindArgs (PySem.W.fnOf x x (defArgs st) (defBody st) (defScope st) .none kV doc pm an cdv ct) ⟨us, []⟩ = pure (ps.zip us))
    (len : ∀ vs H Q E, sp vs H Q E → vs.length = ps.length)
    (body : ∀ (f : Addr) (cdv : Value) (A : Around) (outer : List Env) (s : Shared) (H : Hp) (vs : List V) (Q : VK) (E : XK), Room k (A.deeper (envOfC x (defScope st) s.heap.objs.size f cdv)) → sp vs H Q E →
      ∃ t, PSs (cxOf CX0 P w K mg base N x (defScope st) f cdv A outer s H E).nox (defBody st) t ∧ t { nx := fun _ H' => Q .non H', rt := Q } (start N vs) H) : Def P w K mg base x (k + 1) ps sp := by
  obtain ⟨f, fd, hm, F⟩ := F.ex
  refine ⟨f, fd, hm, F.kp, F.bindsN hb, F.ok S len fun cdv A outer s H vs Q E hr h => ?_⟩
  obtain ⟨t, h1, h2⟩ := body f cdv A outer s H vs Q E hr h
  exact ⟨t, h1.nox, h2⟩
end
end K78

/-! text F0 -/
set_option Elab.async false
set_option linter.all false
set_option maxRecDepth 100000
set_option maxHeartbeats 4000000
namespace K78
open PySem PySem.Spec PyProof.Rows L2
section
variable (K : PySem.W.Frag) {X : Cx}
theorem isi (h : X.K = K := by rfl) : CallR X (.builtin "isinstance") (rIsi K) := by subst h; exact call_isi
theorem isiT (h : X.K = K := by rfl) : CallR X (.builtin "isinstance") (rIsiT K) := by subst h; exact call_isiT
theorem psFld {o value : Expr} {ta tv : TE} {f : Str} {pos pos' : Pos} (ha : PE X o ta) (hv : PE X value tv) (hs : swapsWith value (some (.Attribute o f pos')) pos.line X.env = pure false := by rfl) (h : X.K = K := by rfl) : PS X (.Assign [.Attribute o f pos'] value pos) (sFld K ta tv f) := by subst h; exact ps_fld ha hv hs
end
theorem hu9 {k : Nat} {A : Around} (r : Room k A) : A.units + 9 < cLine := by have := r.un; omega
theorem hu64 {k : Nat} {A : Around} (r : Room k A) : A.units + 64 < cLine := by have := r.un; omega
theorem hu65 {k : Nat} {A : Around} (r : Room k A) : A.units + 65 < cLine := by have := r.un; omega
theorem hu1 {k : Nat} {A : Around} (r : Room k A) : A.units + 1 < cLine := by have := r.un; omega
section
variable {P : Program} {w : World} {K : PySem.W.Frag} {mg : Str → Option Value} {base : Heap} {C : Addr}
/-! ### is_integer, is_number, is_index, is_sequence -/
def spIsInt : Sp := fun vs H Q _ => ∃ i : Int, vs = [.int i] ∧ Q (.bl true) H
def spIsNum : Sp := fun vs H Q _ => ∃ i : Int, vs = [.int i] ∧ Q (.bl (decide (0 ≤ i))) H
def spIsIdx : Sp := fun vs H Q _ => ∃ i j : Int, vs = [.int i, .int j] ∧ Q (.bl (decide (0 ≤ i) && decide (i < j))) H
def spIsSeq (K : PySem.W.Frag) : Sp := fun vs H Q _ => ∃ (a : Addr) (xs : List V), vs = [.ref a] ∧ SqL K H a xs ∧ ∀ p o, H p = none → Q (.bl true) (upd H p o)
theorem sc_is_integer : FnScope ["value"] ["value"] (defScope s_is_integer) := ⟨rfl, rfl, rfl, by decide +kernel, rfl, by decide +kernel, by decide +kernel⟩
theorem ok_is_integer (T : Txt K mg C) (F : HasD K mg "is_integer" s_is_integer) : Def P w K mg base "is_integer" 1 ["value"] spIsInt := by
  refine mkDef F sc_is_integer (fun _ _ _ _ _ _ us hl => match us, hl with | [_], _ => rfl) (fun vs H Q E h => ?_) fun f cdv A outer s H vs Q E hr h => ?_
  · obtain ⟨i, rfl, _⟩ := h
    rfl
  · obtain ⟨i, rfl, k⟩ := h
    refine ⟨_, (pss_one (ps_ret (pe_and (pe_callB (isi K) (by rfl) T.f_isinstance (by decide +kernel) (pa_cons (pv 0) (pa_cons (pe_bltn (v := .ty "int") (by rfl) T.f_int boot_int rfl) pa_nil)))
      (pe_one (pe_not (pe_callB (isi K) (by rfl) T.f_isinstance (by decide +kernel) (pa_cons (pv 0) (pa_cons (pe_bltn (v := .ty "bool") (by rfl) T.f_bool boot_bool rfl) pa_nil)))))))), ?_⟩
    refine ⟨_, rfl, _, _, .type "int", .type "int", true, rfl, .ty _, .base (.int i), kit_ty (by decide +kernel), true, rfl, ?_⟩
    rw [if_pos rfl]
    exact ⟨_, rfl, _, _, .type "int", .type "bool", false, rfl, .ty _, .base (.int i), kit_ty (by decide +kernel), false, rfl, k⟩
theorem sc_is_number : FnScope ["value"] ["value"] (defScope s_is_number) := ⟨rfl, rfl, rfl, by decide +kernel, rfl, by decide +kernel, by decide +kernel⟩
theorem ok_is_number (T : Txt K mg C) (F : HasD K mg "is_number" s_is_number) (d : Def P w K mg base "is_integer" 1 ["value"] spIsInt) : Def P w K mg base "is_number" 2 ["value"] spIsNum := by
  refine mkDef F sc_is_number (fun _ _ _ _ _ _ us hl => match us, hl with | [_], _ => rfl) (fun vs H Q E h => ?_) fun f cdv A outer s H vs Q E hr h => ?_
  · obtain ⟨i, rfl, _⟩ := h
    rfl
  · obtain ⟨i, rfl, k⟩ := h
    refine ⟨_, (pss_one (ps_ret (pe_and (pe_def d hr (by rfl) (pa_cons (pv 0) pa_nil)) (pe_one (pe_cmpR op_ge (pv 0) pe_int (nomark _)))))), ?_⟩
    refine ⟨_, rfl, i, rfl, true, rfl, ?_⟩
    rw [if_pos rfl]
    exact ⟨_, rfl, _, _, rfl, rfl, k⟩
theorem sc_is_index : FnScope ["value", "many"] ["value", "many"] (defScope s_is_index) := ⟨rfl, rfl, rfl, by decide +kernel, rfl, by decide +kernel, by decide +kernel⟩
theorem ok_is_index (T : Txt K mg C) (F : HasD K mg "is_index" s_is_index) (d : Def P w K mg base "is_number" 2 ["value"] spIsNum) : Def P w K mg base "is_index" 3 ["value", "many"] spIsIdx := by
  refine mkDef F sc_is_index (fun _ _ _ _ _ _ us hl => match us, hl with | [_, _], _ => rfl) (fun vs H Q E h => ?_) fun f cdv A outer s H vs Q E hr h => ?_
  · obtain ⟨i, j, rfl, _⟩ := h
    rfl
  · obtain ⟨i, j, rfl, k⟩ := h
    refine ⟨_, (pss_one (ps_ret (pe_and (pe_def d hr (by rfl) (pa_cons (pv 0) pa_nil)) (pe_one (pe_cmpR op_lt (pv 0) (pv 1) (nomark _)))))), ?_⟩
    refine ⟨_, rfl, i, rfl, _, rfl, ?_⟩
    by_cases c : 0 ≤ i
    · rw [if_pos (decide_eq_true c)]
      refine ⟨_, rfl, _, rfl, _, _, rfl, rfl, ?_⟩
      rw [decide_eq_true c, Bool.true_and] at k
      exact k
    · rw [if_neg (by simpa using c)]
      rw [decide_eq_false c, Bool.false_and] at k
      exact k
theorem sq_ty {H : Hp} {a : Addr} {xs : List V} (h : SqL K H a xs) : TyX K H (.ref a) (.type "list") := by
  rcases h with (q | ⟨o, q⟩) | ⟨o, its, n, hk, hc, _⟩
  · exact .base (.lst q)
  · exact .base (.frz q)
  · exact .kList hk hc
theorem sc_is_sequence : FnScope ["value"] ["value"] (defScope s_is_sequence) := ⟨rfl, rfl, rfl, by decide +kernel, rfl, by decide +kernel, by decide +kernel⟩
theorem ok_is_sequence (T : Txt K mg C) (F : HasD K mg "is_sequence" s_is_sequence) : Def P w K mg base "is_sequence" 1 ["value"] (spIsSeq K) := by
  refine mkDef F sc_is_sequence (fun _ _ _ _ _ _ us hl => match us, hl with | [_], _ => rfl) (fun vs H Q E h => ?_) fun f cdv A outer s H vs Q E hr h => ?_
  · obtain ⟨a, xs, rfl, _⟩ := h
    rfl
  · obtain ⟨a, xs, rfl, hs, k⟩ := h
    refine ⟨_, (pss_one (ps_ret (pe_callB (isiT K) (by rfl) T.f_isinstance (by decide +kernel) (pa_cons (pv 0) (pa_cons (pe_tup (pa_cons (pe_bltn (v := .ty "list") (by rfl) T.f_list boot_list rfl) (pa_cons (pe_bltn (v := .ty "tuple") (by rfl) T.f_tuple boot_tuple rfl) pa_nil))) pa_nil))))), ?_⟩
    refine ⟨_, rfl, (by decide), fun p hp => ?_⟩
    have e : SqL K (upd H p (.tup [.ty "list", .ty "tuple"])) a xs := by
      have z : L2.Same H (upd H p (.tup [.ty "list", .ty "tuple"])) := fun b u hb => by rw [upd_ne (ne_of_none hb hp)]; exact hb
      exact z.seq hs
    exact ⟨_, p, [.ty "list", .ty "tuple"], .type "list", [.type "list", .type "tuple"], true, rfl, upd_same, .cons (.ty _) (.cons (.ty _) .nil), sq_ty e,
      kitAny_cons (b := true) (kit_ty (by decide +kernel)) (fun q => by cases q) (fun _ => rfl), k p _ hp⟩
end
end K78

/-! text F1 -/
set_option Elab.async false
set_option linter.all false
set_option maxRecDepth 100000
set_option maxHeartbeats 4000000
namespace K78
open PySem PySem.Spec PyProof.Rows L2
section
variable {P : Program} {w : World} {K : PySem.W.Frag} {mg : Str → Option Value} {base : Heap} {C : Addr}

/-! ### followed -/
def followedF (one other : List Nat) : List Nat := one.map (other.getD · 0)
def spFollowed (K : PySem.W.Frag) : Sp := pureSp fun G vs Post => ∃ x y one other, vs = [x, y] ∧ Dp K G x (eR one) ∧ Dp K G y (eR other) ∧ (∀ s ∈ one, s < other.length) ∧ one.length < 100000 ∧ Post = fun G' v => Dp K G' v (eR (followedF one other))
theorem sc_followed : FnScope ["one", "other", "state"] ["one", "other"] (defScope s_followed) := ⟨rfl, rfl, rfl, by decide +kernel, rfl, by decide +kernel, by decide +kernel⟩
theorem ok_followed (T : Txt K mg C) (F : HasD K mg "followed" s_followed) : Def P w K mg base "followed" 1 ["one", "other"] (spFollowed K) := by
  refine mkDef F sc_followed (fun _ _ _ _ _ _ us hl => match us, hl with | [_, _], _ => rfl) (fun vs H Q E h => ?_) fun f cdv A outer s H vs Q E hr h => ?_
  · obtain ⟨G, Post, _, ⟨x, y, one, other, rfl, _⟩, _⟩ := h
    rfl
  · obtain ⟨G, Post, gh, ⟨x, y, one, other, rfl, hx, hy, hlt, hl, rfl⟩, k⟩ := h
    refine ⟨_, (pss_one (ps_ret (pe_callTy (tupOf K) (by rfl) T.f_tuple (by decide +kernel) (pa_cons (pe_lc (own := [("state", 2)]) rfl sc_followed.nd (piT K (pv 0)) (blkOk_by (own := [("state", 2)]) (by kernel_rfl)) (fun _ _ _ _ _ => (pg_name (i := 2) sc_followed.nd rfl (by first | exact Or.inl rfl | exact Or.inr rfl))) (fun _ _ _ _ _ => pts_nil) (fun _ _ _ _ _ => (pe_ix (ixT K) (pv 1) (pv 2) (fun _ _ => rfl)))) pa_nil)))), ?_⟩
    obtain ⟨a, rfl, hs⟩ := dp_row hx
    refine ⟨_, rfl, a, rfl, ⟨_, same_t gh hs⟩, fun D hD => lcTD ((followedF one other).map eI) (by simp [followedF]) gh hs hD (fun _ => rfl) (by simp; omega) (fun i x r hi hr G1 H1 e1 Q q => ?_) fun G1 H1 e1 d1 => ?_⟩
    · have h1 : i < one.length := by have := (List.getElem?_eq_some_iff.mp hi).1; simpa using this
      have ex : x = vI one[i] := by
        simp [h1] at hi; exact hi.symm
      have hlt1 := hlt one[i] (List.getElem_mem h1)
      have er : r = eI (other.getD one[i] 0) := by
        simp [followedF, h1] at hr; rw [← hr]; simp
      subst ex er
      refine ⟨_, rfl, _, rfl, ?_⟩
      refine rd_ixT (dp_up e1.gg hy) e1.gh (d := eI (other.getD one[i] 0)) (by simp [List.getD, hlt1]) fun u hu => ?_
      exact q u G1 H1 (Ext.refl e1.gh) hu
    · exact rd_tupOf d1 e1.gh fun p G2 H2 e2 d2 => k _ _ _ (e1.trans e2) d2
end
end K78

/-! text FM -/
set_option Elab.async false
set_option linter.all false
set_option maxRecDepth 100000
set_option maxHeartbeats 4000000
namespace K78
open PySem PySem.Spec PyProof.Rows L2

/-! ### a machine -/
theorem dec_ne {i j : Int} (h : i ≠ j) : decide (V.int i = V.int j) = false := decide_eq_false fun z => h (by injection z)
theorem dec_eq {i j : Int} (h : i = j) : decide (V.int i = V.int j) = true := decide_eq_true (by rw [h])
def mF (k n : Nat) (st : V) : List (Str × V) := [("commands", vI k), ("states", vI n), ("steps", st)]
theorem lk_here {k : Str} {v : V} {r : List (Str × V)} : List.lookup k ((k, v) :: r) = some v := by
  have e : (k == k) = true := beq_self_eq_true k
  simp only [List.lookup, e]
theorem lk_past {k g : Str} {v : V} {r : List (Str × V)} (h : (k == g) = false) : List.lookup k ((g, v) :: r) = List.lookup k r := by
  simp only [List.lookup, h]
theorem put_past {f g : Str} {v x : V} {r : List (Str × V)} (h : ¬ g = f) : putF f v ((g, x) :: r) = (g, x) :: putF f v r := if_neg h
structure OkM (k : Nat) (rows : List (List Nat)) : Prop where
  k1 : 1 ≤ k
  k9 : k ≤ 1000
  n1 : 1 ≤ rows.length
  n9 : rows.length ≤ 4000
  rl : ∀ r ∈ rows, r.length = k
  rb : ∀ r ∈ rows, ∀ s ∈ r, s < rows.length
def Mac (K : PySem.W.Frag) (C : Addr) (G : Hp) (v : V) (k : Nat) (rows : List (List Nat)) : Prop := ∃ p dx st, v = .ref p ∧ G p = some (.ins C dx (mF k rows.length st)) ∧ Dp K G st (eRR rows)
section
variable {P : Program} {w : World} {K : PySem.W.Frag} {mg : Str → Option Value} {base : Heap} {C : Addr} {G H : Hp} {v : V} {k : Nat} {rows : List (List Nat)}
theorem mac_up {G' : Hp} (e : L2.Same G G') (m : Mac K C G v k rows) : Mac K C G' v k rows := by
  obtain ⟨p, dx, st, rfl, h1, h2⟩ := m
  exact ⟨p, dx, st, rfl, e _ _ h1, dp_up e h2⟩
theorem fld_steps (T : Txt K mg C) (m : Mac K C G v k rows) (gh : L2.Same G H) {Q : VK} (q : ∀ st, Dp K G st (eRR rows) → Q st H) : ∃ a C' dx fs u, v = .ref a ∧ H a = some (.ins C' dx fs) ∧ Cls K C' ∧ NoAttr K C' "steps" ∧ fs.lookup ("steps" : Str) = some u ∧ Q u H := by
  obtain ⟨p, dx, st, rfl, h1, h2⟩ := m
  exact ⟨p, C, dx, _, st, rfl, gh _ _ h1, T.cl, T.nT, (lk_past (by decide +kernel)).trans ((lk_past (by decide +kernel)).trans lk_here), q st h2⟩
theorem fld_commands (T : Txt K mg C) (m : Mac K C G v k rows) (gh : L2.Same G H) {Q : VK} (q : Q (vI k) H) : ∃ a C' dx fs u, v = .ref a ∧ H a = some (.ins C' dx fs) ∧ Cls K C' ∧ NoAttr K C' "commands" ∧ fs.lookup ("commands" : Str) = some u ∧ Q u H := by
  obtain ⟨p, dx, st, rfl, h1, h2⟩ := m
  exact ⟨p, C, dx, _, _, rfl, gh _ _ h1, T.cl, T.nC, lk_here, q⟩
theorem fld_states (T : Txt K mg C) (m : Mac K C G v k rows) (gh : L2.Same G H) {Q : VK} (q : Q (vI rows.length) H) : ∃ a C' dx fs u, v = .ref a ∧ H a = some (.ins C' dx fs) ∧ Cls K C' ∧ NoAttr K C' "states" ∧ fs.lookup ("states" : Str) = some u ∧ Q u H := by
  obtain ⟨p, dx, st, rfl, h1, h2⟩ := m
  exact ⟨p, C, dx, _, _, rfl, gh _ _ h1, T.cl, T.nS, (lk_past (by decide +kernel)).trans lk_here, q⟩
theorem lk_steps {k n : Nat} {st : V} : (mF k n st).lookup ("steps" : Str) = some st := (lk_past (by decide +kernel)).trans ((lk_past (by decide +kernel)).trans lk_here)
theorem lk_states {k n : Nat} {st : V} : (mF k n st).lookup ("states" : Str) = some (vI n) := (lk_past (by decide +kernel)).trans lk_here
theorem lk_commands {k n : Nat} {st : V} : (mF k n st).lookup ("commands" : Str) = some (vI k) := lk_here
/-- machine.steps[s] -/
theorem rd_row {st : V} {s : Nat} (h : Dp K G st (eRR rows)) (gh : L2.Same G H) (hs : s < rows.length) {Q : VK} (q : ∀ u, Dp K G u (eR rows[s]) → Q u H) : rIxT K st (vI s) H Q :=
  rd_ixT h gh (d := eR rows[s]) (by simp [hs]) q
theorem rd_nat {r : List Nat} {u : V} {c : Nat} (h : Dp K G u (eR r)) (gh : L2.Same G H) (hc : c < r.length) {Q : VK} (q : Q (vI r[c]) H) : rIxT K u (vI c) H Q :=
  rd_ixT h gh (d := eI r[c]) (by simp [hc]) fun w hw => by rw [dp_int hw]; exact q

/-! ### Machine.__init__ -/
def spInit (K : PySem.W.Frag) (C : Addr) : Sp := fun vs H Q _ => ∃ (p dx : Addr) (k : Nat) (rows : List (List Nat)) (v : V) (G : Hp), vs = [.ref p, vI k, v] ∧ H p = some (.ins C dx []) ∧ G p = none ∧ L2.Same G H ∧ Dp K G v (eLL rows) ∧ OkM k rows ∧
  ∀ st G' H', Ext [p] G H G' H' → G' p = none → H' p = some (.ins C dx (mF k rows.length st)) → Dp K G' st (eRR rows) → Q .non H'
theorem sc_init : FnScope ["self", "commands", "steps", "many", "at", "row", "state"] ["self", "commands", "steps"] (defScope s_init) := ⟨rfl, rfl, rfl, by decide +kernel, rfl, by decide +kernel, by decide +kernel⟩
theorem seq_get {L : List PyData} (h : Dp K G v (.list L)) (gh : L2.Same G H) : ∃ a xs, v = .ref a ∧ SqL K H a xs ∧ DpAll K G xs L ∧ xs.length = L.length := by
  obtain ⟨a, xs, rfl, h1, h2⟩ := dp_list h
  exact ⟨a, xs, rfl, gh.seq h1, h2, dpA_len h2⟩
theorem ok_init {f : Addr} {fd : FuncData} (T : Txt K mg C) (F : FunD K "__init__" "Machine.__init__" (defArgs s_init) (defBody s_init) (defScope s_init) [] [] f fd) (d_is_integer : Def P w K mg base "is_integer" 1 ["value"] spIsInt) (d_is_sequence : Def P w K mg base "is_sequence" 1 ["value"] (spIsSeq K))
    (d_is_index : Def P w K mg base "is_index" 3 ["value", "many"] spIsIdx) : FnOk P w K mg base CX0 4 f fd ["self", "commands", "steps"] (spInit K C) := by
  refine F.ok sc_init (fun vs H Q E h => ?_) fun cdv A outer s H vs Q E hr h => ?_
  · obtain ⟨p, dx, k, rows, v, G, rfl, _⟩ := h
    rfl
  · obtain ⟨p, dx, k, rows, v, G, rfl, hp, hg, gh, hv, ok, q⟩ := h
    suffices z : ∃ t, PSs (cxOf CX0 P w K mg base ["self", "commands", "steps", "many", "at", "row", "state"] "Machine.__init__" (defScope s_init) f cdv A outer s H E).nox (defBody s_init) t ∧ t { nx := fun _ H' => Q .non H', rt := Q } (start ["self", "commands", "steps", "many", "at", "row", "state"] [.ref p, vI k, v]) H by
      obtain ⟨t, h1, h2⟩ := z
      exact ⟨t, h1.nox, h2⟩
    refine ⟨_, (pss_cons (ps_if (PW.pt (pw_or (pt_not (pt_val (pe_def d_is_integer (hr.mono (by decide)) (by rfl) (pa_cons (pv 1) pa_nil)))) (pw_or1 (pt_cmpR op_lt (pv 1) pe_int (nomark _))))) (pss_one ps_never) pss_nil) (pss_cons (ps_if (PW.pt (pw_or (pt_not (pt_val (pe_def d_is_sequence (hr.mono (by decide)) (by rfl) (pa_cons (pv 2) pa_nil)))) (pw_or1 (pt_cmpR op_eq (pe_callB (lenS K) (by rfl) T.f_len (by decide +kernel) (pa_cons (pv 2) pa_nil)) pe_int (nomark _))))) (pss_one ps_never) pss_nil) (pss_cons (ps_set (i := 3) sc_init.nd rfl (by first | exact Or.inl rfl | exact Or.inr rfl) (pe_callB (lenS K) (by rfl) T.f_len (by decide +kernel) (pa_cons (pv 2) pa_nil))) (pss_cons (ps_for PassesOwn.never rfl (piE K (by rfl) T.f_enumerate (pa_cons (pv 2) pa_nil)) (pgT K (pgs_cons (pg_name (i := 4) sc_init.nd rfl (by first | exact Or.inl rfl | exact Or.inr rfl)) (pgs_cons (pg_name (i := 5) sc_init.nd rfl (by first | exact Or.inl rfl | exact Or.inr rfl)) pgs_nil))) (pss_one (ps_if (PW.pt (pw_or (pt_not (pt_val (pe_def d_is_sequence (hr.mono (by decide)) (by rfl) (pa_cons (pv 5) pa_nil)))) (pw_or (pt_cmpR op_ne (pe_callB (lenS K) (by rfl) T.f_len (by decide +kernel) (pa_cons (pv 5) pa_nil)) (pv 1) (nomark _)) (pw_or1 (pt_not (pt_val (pe_callB (allL K) (by rfl) T.f_all (by decide +kernel) (pa_cons (pe_lc (own := [("state", 6)]) rfl sc_init.nd (piL K (pv 5)) (blkOk_by (own := [("state", 6)]) (by kernel_rfl)) (fun _ _ _ _ _ => (pg_name (i := 6) sc_init.nd rfl (by first | exact Or.inl rfl | exact Or.inr rfl))) (fun _ _ _ _ _ => pts_nil) (fun _ _ _ _ _ => (pe_def d_is_index (hr.mono (by decide)) (by rfl) (pa_cons (pv 6) (pa_cons (pv 3) pa_nil))))) pa_nil)))))))) (pss_one ps_never) pss_nil))) (pss_cons (psFld K (pv 0) (pv 1)) (pss_cons (psFld K (pv 0) (pv 3)) (pss_one (psFld K (pv 0) (pe_callTy (tupOf K) (by rfl) T.f_tuple (by decide +kernel) (pa_cons (pe_lc (own := [("row", 5)]) rfl sc_init.nd (piL K (pv 2)) (blkOk_by (own := [("row", 5)]) (by kernel_rfl)) (fun _ _ _ _ _ => (pg_name (i := 5) sc_init.nd rfl (by first | exact Or.inl rfl | exact Or.inr rfl))) (fun _ _ _ _ _ => pts_nil) (fun _ _ _ _ _ => (pe_callTy (tupOf K) (by rfl) T.f_tuple (by decide +kernel) (pa_cons (pv 5) pa_nil)))) pa_nil)))))))))), ?_⟩
    have hX : ∀ {b : Addr} {o : HO}, H b = some o → True := fun _ => trivial
    obtain ⟨a, xs, rfl, hsG, hxs⟩ := dp_list hv
    have hs : SqL K H a xs := gh.seq hsG
    have hl := dpA_len hxs
    rw [List.length_map] at hl
    -- the tests
    refine ⟨_, rfl, (k : Int), rfl, true, rfl, iteF ⟨_, rfl, _, _, rfl, rfl, _, rfl, ?_⟩⟩
    rw [decide_eq_false (by have := ok.k1; omega)]
    refine iteF ⟨_, rfl, a, xs, rfl, hs, fun p1 o1 hp1 => ⟨true, rfl, iteF ⟨_, rfl, a, xs, rfl, .inl ?_, rfl, _, rfl, ?_⟩⟩⟩
    · exact (same_new (L2.Same.refl H) hp1).seq hs
    rw [dec_ne (by have := ok.n1; omega)]
    have e1 := (Ext.refl (X := []) gh).newM (o := o1) hp1
    generalize hH1 : upd H p1 o1 = H1 at e1 ⊢
    have hs1 : SqL K H1 a xs := by rw [← hH1]; exact (same_new (L2.Same.refl H) hp1).seq hs
    refine iteF ⟨_, rfl, a, xs, rfl, .inl hs1, ?_⟩
    refine ⟨_, rfl, a, xs, rfl, hs1, for_it (walk_enum (K := K) (a := a) (xs := xs)) (fun i σ H' => ∃ G' va vb, Ext [] G H G' H' ∧ σ = [some (.ref p), some (vI k), some (.ref a), some (.int xs.length), va, vb, none]) ⟨G, none, none, e1, rfl⟩ (fun i σ H' _ ⟨G', va, vb, e, _⟩ => (e.gg.trans e.gh).seq hsG) ?_ ?_⟩
    · rintro i v σ H2 H3 hi ⟨G', va, vb, e, rfl⟩ ⟨q, x, y, rfl, hq, rfl, hx, hy⟩
      cases hx
      obtain ⟨d, hd, hy⟩ := dpA_at' hxs hy
      have hir : i < rows.length := by rw [← hl]; exact hi
      obtain rfl : d = eL rows[i] := by simp [hir] at hd; exact hd.symm
      have hm : rows[i] ∈ rows := List.getElem_mem hir
      obtain ⟨b, ys, rfl, hb, hys⟩ := dp_list hy
      have e2 := e.newM (o := .tup [.int (i : Nat), .ref b]) hq
      have hyv := dpAll_ints hys
      have sb : ∀ {G2 H2}, Ext [] G H G2 H2 → SqL K H2 b ys := fun e => (e.gg.trans e.gh).seq hb
      refine ⟨q, _, rfl, SqT.of upd_same, rfl, _, _, rfl, _, _, rfl, rfl, ?_⟩
      generalize upd H2 q (.tup [.int (i : Nat), .ref b]) = H4 at e2 ⊢
      refine ⟨_, rfl, b, ys, rfl, sb e2, fun p2 o2 hp2 => ⟨true, rfl, iteF ⟨_, rfl, b, ys, rfl, .inl (sb (e2.newM hp2)), _, rfl, rfl, _, rfl, ?_⟩⟩⟩
      rw [dec_eq (by rw [hyv, List.length_map, ok.rl _ hm])]
      have e3 := e2.newM (o := o2) hp2
      generalize upd H4 p2 o2 = H5 at e3 ⊢
      refine iteF ⟨_, rfl, b, rfl, ⟨_, sb e3⟩, fun D hD => ?_⟩
      refine lcLD (K := K) (rows[i].map fun _ => PyData.bool true) (by rw [List.length_map, hyv, List.length_map]) e3.gh (e3.gg.seq hb) hD (fun _ => rfl) (by rw [hyv, List.length_map, ok.rl _ hm]; have := ok.k9; omega) (fun j x r hj hr G5 H6 e5 Q5 q5 => ?_) fun G5 H6 e5 d5 => ?_
      · obtain ⟨s, hs1, rfl⟩ : ∃ s, rows[i][j]? = some s ∧ x = vI s := by
          rw [hyv, List.getElem?_map] at hj
          cases z : rows[i][j]? with
          | none => rw [z] at hj; cases hj
          | some s => rw [z] at hj; exact ⟨s, rfl, (Option.some.inj hj).symm⟩
        have hb := ok.rb _ hm s (List.mem_of_getElem? hs1)
        obtain rfl : r = .bool true := by
          rw [List.getElem?_map, hs1] at hr
          exact (Option.some.inj hr).symm
        refine ⟨_, rfl, _, rfl, (s : Int), (xs.length : Int), rfl, ?_⟩
        rw [decide_eq_true (by omega), decide_eq_true (by omega)]
        exact q5 _ _ _ (Ext.refl e5.gh) (.bl true)
      · obtain ⟨l, ls, hl1, hl2, hl3⟩ := d5
        cases hl1
        have hls : ls = (rows[i].map fun _ => true).map V.bl := by
          have gen : ∀ {l : List Nat} {vs : List V}, DpAll K G5 vs (l.map fun _ => PyData.bool true) → vs = (l.map fun _ => true).map V.bl := by
            intro l
            induction l with
            | nil => intro vs h; cases h; rfl
            | cons _ r ih =>
              intro vs h
              rw [List.map_cons] at h
              cases h with
              | cons h1 h2 => cases h1; rw [ih h2]; rfl
          exact gen hl3
        refine ⟨_, rows[i].map fun _ => true, rfl, ?_, true, ?_, ?_⟩
        · rw [← hls]; exact e5.gh.seq (.of hl2)
        · rw [show (List.map (fun _ => true) rows[i]).all id = true by simp]
        · exact iteF ⟨G5, _, _, e3.trans e5, rfl⟩
    · rintro σ H2 ⟨G', va, vb, e, rfl⟩
      obtain ⟨dp1, dp2⟩ := e.keepM hp hg (by simp)
      refine ⟨_, rfl, _, rfl, p, C, dx, [], rfl, dp1, T.cl, T.nC, (by show 0 < 1000; decide), ?_⟩
      refine ⟨_, rfl, _, rfl, p, C, dx, _, rfl, upd_same, T.cl, T.nS, (by show 1 < 1000; decide), ?_⟩
      have e3 := ((e.up (Y := [p])).mut (o := .ins C dx (putF "commands" (vI k) [])) (.inr (by simp)) dp2).mut (o := .ins C dx (putF "states" (.int xs.length) (putF "commands" (vI k) []))) (p := p) (.inr (by simp)) dp2
      have h3 : upd (upd H2 p (.ins C dx (putF "commands" (vI k) []))) p (.ins C dx (putF "states" (.int xs.length) (putF "commands" (vI k) []))) p = some (.ins C dx (putF "states" (.int xs.length) (putF "commands" (vI k) []))) := upd_same
      generalize upd (upd H2 p (.ins C dx (putF "commands" (vI k) []))) p (.ins C dx (putF "states" (.int xs.length) (putF "commands" (vI k) []))) = H3 at e3 h3 ⊢
      refine ⟨_, rfl, a, rfl, ⟨_, (e3.gg.trans e3.gh).seq hsG⟩, fun D hD => lcLD (K := K) (rows.map eR) (by rw [List.length_map, hl]) e3.gh (e3.gg.seq hsG) hD (fun _ => rfl) (by have := ok.n9; omega) (fun j x r hj hr G5 H6 e5 Q5 q5 => ?_) fun G5 H6 e5 d5 => ?_⟩
      · obtain ⟨d, hd, hy⟩ := dpA_at' hxs hj
        have hir : j < rows.length := by rw [← hl]; exact (List.getElem?_eq_some_iff.mp hj).1
        obtain rfl : d = eL rows[j] := by simp [hir] at hd; exact hd.symm
        obtain rfl : r = eR rows[j] := by simp [hir] at hr; exact hr.symm
        obtain ⟨b, ys, rfl, hb, hys⟩ := dp_list hy
        refine ⟨_, rfl, b, ys, rfl, .inl ⟨((e3.gg.trans e5.gg).trans e5.gh).seq hb, fun l hl => ?_⟩⟩
        refine q5 _ _ _ ((Ext.refl e5.gh).new hl) (tup_new e5.gh hl (dpA_up (e3.gg.trans e5.gg) hys))
      · dsimp only [tNil]
        refine rd_tupOf d5 e5.gh fun t G6 H7 e6 d6 => ?_
        obtain ⟨f1, f2⟩ := (e5.trans e6).keepM h3 dp2 (by simp)
        refine ⟨_, rfl, p, C, dx, _, rfl, f1, T.cl, T.nT, (by show 2 < 1000; decide), ?_⟩
        refine q (.ref t) G6 _ ((e3.trans (e5.trans e6).up).mut (.inr (by simp)) f2) f2 ?_ d6
        rw [upd_same]
        refine congrArg (fun z => some (HO.ins C dx z)) ?_
        rw [← hl]
        exact (put_past (by decide +kernel)).trans (congrArg _ (put_past (by decide +kernel)))
/-- the class makes machines -/
structure MkMach (P : Program) (w : World) (K : PySem.W.Frag) (mg : Str → Option Value) (base : Heap) (C : Addr) : Prop where
  ex : ∃ f fd, Mk K C f ∧ Binds K fd ["self", "commands", "steps"] [] ∧ FnOk P w K mg base CX0 4 f fd ["self", "commands", "steps"] (spInit K C)
  mC : mg "Machine" = some (.ref C)
theorem pe_mach {X : Cx} {p pos : Pos} {e : Expr} {es : List Expr} {t : TA} (K : PySem.W.Frag) (M : MkMach X.prog X.w X.K X.mg X.base C) (hr : Room 5 X.A) (hg : Gl X "Machine") (ha : PA X (e :: es) t)
    (he : starEach (e :: es) X.env = (false, eval e X.env) :: starEach es X.env := by rfl) (hpl : (backTo pos (starEach es X.env)).any (·.1) = false := by rfl) (h : X.K = K := by rfl) :
    PE X (.Call (.Name "Machine" p) (e :: es) [] pos) (tMake C (spInit K C) [] E0 t) := by
  subst h
  obtain ⟨f, fd, mk, hb, F⟩ := M.ex
  exact pe_make mk F hr hg M.mC hb .nil pass0 ha (by decide) he hpl
theorem rd_make (gh : L2.Same G H) (hv : Dp K G v (eLL rows)) (ok : OkM k rows) {Q : VK} (q : ∀ p G' H', Ext [] G H G' H' → Mac K C G' (.ref p) k rows → Q (.ref p) H') : ∀ x dx, H x = none → H dx = none → dx ≠ x →
    spInit K C (.ref x :: ([vI k, v] ++ [])) (upd (upd H dx (.own x)) x (.ins C dx [])) (fun v H2 => v = .non ∧ Q (.ref x) H2) E0 := by
  intro x dx hx hdx hne
  have e0 := ((Ext.refl (X := []) gh).newM (o := .own x) hdx).newM (p := x) (o := .ins C dx []) (by rw [upd_ne (Ne.symm hne)]; exact hx)
  refine ⟨x, dx, k, rows, v, G, rfl, upd_same, gh.free hx, e0.gh, hv, ok, fun st G' H' e h1 h2 h3 => ⟨rfl, ?_⟩⟩
  have e1 : Ext [] G H G' H' := by
    refine ⟨e.gg, e.gh, fun b o hb _ => ?_, fun b hb => ?_, fun b hb1 hb2 => ?_⟩
    · have nb : b ≠ x := ne_of_none hb hx
      exact e.hh b o (e0.hh b o hb (by simp)) (by simp [nb])
    · exact e.th b (e0.th b hb)
    · exact e.fr b hb1 (e0.th b hb2)
  exact q x _ _ (e1.pub hx h1 h2) ⟨x, dx, st, rfl, upd_same, dp_up (fun b o hb => by rw [upd_ne (ne_of_none hb h1)]; exact hb) h3⟩
end
end K78

/-! text D1 -/
set_option Elab.async false
set_option linter.all false
set_option maxRecDepth 100000
set_option maxHeartbeats 2000000
namespace K78
open PySem PySem.Spec PyProof.Rows L2

/-! ### keys -/
section
variable {kvs : List (NestedKey × V)} {k : NestedKey} {v : V}
theorem val_in : (valV kvs k).isSome = true ↔ k ∈ kvs.map (·.1) := by
  induction kvs with
  | nil => simp [valV]
  | cons p r ih =>
    by_cases e : p.1 = k
    · rw [valV_pos e]; simp [e]
    · rw [valV_neg e, ih]
      simp only [List.map_cons, List.mem_cons]
      exact ⟨.inr, fun h => h.resolve_left fun z => e z.symm⟩
theorem val_none : valV kvs k = none ↔ k ∉ kvs.map (·.1) := by
  rw [← val_in]
  cases valV kvs k <;> simp
theorem put_new (h : k ∉ kvs.map (·.1)) : putK kvs k v = kvs ++ [(k, v)] := by
  unfold putK
  rw [if_neg]
  rw [valV_any, val_in]; exact h
theorem put_keys (h : k ∈ kvs.map (·.1)) : (putK kvs k v).map (·.1) = kvs.map (·.1) := by
  unfold putK
  rw [if_pos (by rw [valV_any, val_in]; exact h), List.map_map]
  refine List.map_congr_left fun p _ => ?_
  by_cases e : p.1 = k <;> simp [e]
theorem put_keys_new (h : k ∉ kvs.map (·.1)) : (putK kvs k v).map (·.1) = kvs.map (·.1) ++ [k] := by
  rw [put_new h]; simp
end
theorem okKs_ints (r : List Nat) : okKs (r.map eI) = true := by
  induction r with
  | nil => rfl
  | cons a r ih => simp [okKs, okK, ih]
theorem ok_row (r : List Nat) : okK (eR r) = true := by rw [okK]; exact okKs_ints r
theorem ok_pair (p : Nat × Nat) : okK (eP p) = true := by simp [okK, okKs]
theorem ok_pairs (l : List (Nat × Nat)) : okK (ePs l) = true := by
  rw [okK, okKs_all, List.all_map]
  exact List.all_eq_true.mpr fun p _ => ok_pair p
abbrev eLots (L : List (List (Nat × Nat))) : PyData := .tuple (L.map ePs)
theorem ok_lots (L : List (List (Nat × Nat))) : okK (eLots L) = true := by
  rw [okK, okKs_all, List.all_map]
  exact List.all_eq_true.mpr fun p _ => ok_pairs p
theorem depthAll_le {n : Nat} : ∀ {ks : List NestedKey}, (∀ k ∈ ks, k.depth ≤ n) → NestedKey.depthAll ks ≤ n
  | [], _ => by simp [NestedKey.depthAll]
  | k :: ks, h => by
    rw [NestedKey.depthAll]
    exact Nat.max_le.mpr ⟨h k List.mem_cons_self, depthAll_le fun q hq => h q (List.mem_cons_of_mem _ hq)⟩
theorem dep_tup {n : Nat} {ds : List PyData} (h : ∀ d ∈ ds, (toK d).depth ≤ n) : (toK (.tuple ds)).depth ≤ n + 1 := by
  rw [toK, NestedKey.depth, toKs_map]
  exact Nat.succ_le_succ (depthAll_le fun k hk => by
    obtain ⟨d, hd, rfl⟩ := List.mem_map.mp hk
    exact h d hd)
theorem dep_row (r : List Nat) : (toK (eR r)).depth ≤ 1 := dep_tup fun d hd => by
  obtain ⟨n, _, rfl⟩ := List.mem_map.mp hd
  simp [toK, NestedKey.depth]
theorem dep_pair (p : Nat × Nat) : (toK (eP p)).depth ≤ 1 := dep_tup fun d hd => by
  simp at hd
  rcases hd with rfl | rfl <;> simp [toK, NestedKey.depth]
theorem dep_pairs (l : List (Nat × Nat)) : (toK (ePs l)).depth ≤ 2 := dep_tup fun d hd => by
  obtain ⟨p, _, rfl⟩ := List.mem_map.mp hd
  exact dep_pair p
theorem dep_lots (L : List (List (Nat × Nat))) : (toK (eLots L)).depth ≤ 3 := dep_tup fun d hd => by
  obtain ⟨p, _, rfl⟩ := List.mem_map.mp hd
  exact dep_pairs p
section
variable {K : PySem.W.Frag} {G : Hp} {v : V}
theorem kd_row {r : List Nat} (h : Dp K G v (eR r)) : Kd K G v (toK (eR r)) := ⟨⟨_, _, h, rfl, ok_row r, rfl⟩, Nat.le_trans (dep_row r) (by decide)⟩
theorem kd_pair {p : Nat × Nat} (h : Dp K G v (eP p)) : Kd K G v (toK (eP p)) := ⟨⟨_, _, h, rfl, ok_pair p, rfl⟩, Nat.le_trans (dep_pair p) (by decide)⟩
theorem kd_pairs {l : List (Nat × Nat)} (h : Dp K G v (ePs l)) : Kd K G v (toK (ePs l)) := ⟨⟨_, _, h, rfl, ok_pairs l, rfl⟩, Nat.le_trans (dep_pairs l) (by decide)⟩
theorem kd_lots {L : List (List (Nat × Nat))} (h : Dp K G v (eLots L)) : Kd K G v (toK (eLots L)) := ⟨⟨_, _, h, rfl, ok_lots L, rfl⟩, Nat.le_trans (dep_lots L) (by decide)⟩
end
theorem eI_inj {a b : Nat} (h : eI a = eI b) : a = b := by injection h with h; omega
theorem eR_inj {a b : List Nat} (h : eR a = eR b) : a = b := by
  injection h with h
  exact List.map_inj_right (fun _ _ => eI_inj) |>.mp h
theorem eP_inj {a b : Nat × Nat} (h : eP a = eP b) : a = b := by
  simp at h
  exact Prod.ext (by omega) (by omega)
theorem ePs_inj {a b : List (Nat × Nat)} (h : ePs a = ePs b) : a = b := by
  injection h with h
  exact List.map_inj_right (fun _ _ => eP_inj) |>.mp h
theorem eLots_inj {a b : List (List (Nat × Nat))} (h : eLots a = eLots b) : a = b := by
  injection h with h
  exact List.map_inj_right (fun _ _ => ePs_inj) |>.mp h
/-- keys by what they stand for -/
structure KEnc {β : Type} (enc : β → PyData) : Prop where
  ok : ∀ b, okK (enc b) = true
  inj : ∀ a b, enc a = enc b → a = b
theorem KEnc.k_inj {β : Type} {enc : β → PyData} (e : KEnc enc) {a b : β} (h : toK (enc a) = toK (enc b)) : a = b := e.inj a b (toK_inj _ _ (e.ok a) (e.ok b) h)
theorem KEnc.mem {β : Type} {enc : β → PyData} (e : KEnc enc) {b : β} {l : List β} : toK (enc b) ∈ l.map (fun b => toK (enc b)) ↔ b ∈ l :=
  ⟨fun h => by
    obtain ⟨c, hc, z⟩ := List.mem_map.mp h
    rw [← e.k_inj z]; exact hc, fun h => List.mem_map.mpr ⟨b, h, rfl⟩⟩
theorem kRow : KEnc eR := ⟨ok_row, fun _ _ => eR_inj⟩
theorem kPair : KEnc eP := ⟨ok_pair, fun _ _ => eP_inj⟩
theorem kPairs : KEnc ePs := ⟨ok_pairs, fun _ _ => ePs_inj⟩
theorem kLots : KEnc eLots := ⟨ok_lots, fun _ _ => eLots_inj⟩
/-- the dict's keys are these -/
def Ks {β : Type} (enc : β → PyData) (kvs : List (NestedKey × V)) (l : List β) : Prop := kvs.map (·.1) = l.map fun b => toK (enc b)
section
variable {β : Type} {enc : β → PyData} {kvs : List (NestedKey × V)} {l : List β} {b : β} {v : V}
theorem Ks.val_in (h : Ks enc kvs l) (e : KEnc enc) : (valV kvs (toK (enc b))).isSome = true ↔ b ∈ l := by rw [K78.val_in, h, e.mem]
theorem Ks.isSome [DecidableEq β] (h : Ks enc kvs l) (e : KEnc enc) : (valV kvs (toK (enc b))).isSome = decide (b ∈ l) := by
  have := h.val_in e (b := b)
  by_cases z : b ∈ l
  · rw [decide_eq_true z, this.mpr z]
  · rw [decide_eq_false z]
    cases q : (valV kvs (toK (enc b))).isSome
    · rfl
    · exact absurd (this.mp q) z
theorem Ks.put_new (h : Ks enc kvs l) (e : KEnc enc) (hb : b ∉ l) : Ks enc (putK kvs (toK (enc b)) v) (l ++ [b]) := by
  unfold Ks
  rw [put_keys_new (by rw [h, e.mem]; exact hb), h]
  simp
theorem Ks.put_old (h : Ks enc kvs l) (e : KEnc enc) (hb : b ∈ l) : Ks enc (putK kvs (toK (enc b)) v) l := by
  unfold Ks
  rw [put_keys (by rw [h, e.mem]; exact hb), h]
theorem Ks.length (h : Ks enc kvs l) : kvs.length = l.length := by have := congrArg List.length h; simpa using this
end

/-! ### the orders -/
abbrev asI (r : List Nat) : List Int := r.map fun n : Nat => (n : Int)
theorem le_rows : PySem.W.dataLe false eR = fun p q => decide (asI p ≤ asI q) := by
  funext p q
  show (!PySem.W.dataLt (.tuple (q.map eI)) (.tuple (p.map eI))) = _
  have e : ∀ r : List Nat, r.map eI = (asI r).map PyData.int := fun r => by rw [List.map_map]; rfl
  rw [PySem.W.dataLt_tuple]
  show (!PySem.W.rowLt (q.map eI) (p.map eI)) = _
  rw [e, e, PySem.W.dataLt_ints]
  by_cases h : asI q < asI p
  · have h' : ¬ asI p ≤ asI q := fun r => List.not_lt.mpr r h
    simp [h, h']
  · have h' : asI p ≤ asI q := List.not_lt.mp h
    simp [h, h']
theorem le_pairs : PySem.W.dataLe false eP = fun p q => decide (p.1 < q.1 ∨ (p.1 = q.1 ∧ p.2 ≤ q.2)) := by
  rw [show eP = (fun b => .tuple [.int ((fun p : Nat × Nat => (p.1 : Int)) b), .int ((fun p : Nat × Nat => (p.2 : Int)) b)]) from rfl, PySem.W.dataLe_ii]
  funext p q
  refine decide_eq_decide.mpr ?_
  omega
/-- sorted lists are told by their items -/
theorem sorted_uniq {α : Type} {le : α → α → Prop} (anti : ∀ a b, le a b → le b a → a = b) : ∀ {l m : List α}, l.Pairwise le → m.Pairwise le → l.Perm m → l = m
  | [], m, _, _, h => (List.Perm.eq_nil h.symm).symm
  | x :: l, [], _, _, h => absurd h.length_eq (by simp)
  | x :: l, y :: m, hl, hm, h => by
    have h1 : x = y := by
      by_cases e : x = y
      · exact e
      · have hx : x ∈ m := (List.mem_cons.mp (h.mem_iff.mp List.mem_cons_self)).resolve_left e
        have hy : y ∈ l := (List.mem_cons.mp (h.symm.mem_iff.mp List.mem_cons_self)).resolve_left fun z => e z.symm
        exact anti x y ((List.pairwise_cons.mp hl).1 y hy) ((List.pairwise_cons.mp hm).1 x hx)
    subst h1
    rw [sorted_uniq anti (List.pairwise_cons.mp hl).2 (List.pairwise_cons.mp hm).2 h.cons_inv]
theorem perm_of_nodup {α : Type} {l m : List α} (hl : l.Nodup) (hm : m.Nodup) (h : ∀ x, x ∈ l ↔ x ∈ m) : l.Perm m := (List.perm_ext_iff_of_nodup hl hm).mpr h
theorem srt_perm {β : Type} (enc : β → PyData) (l : List β) : (srt enc l).Perm l := List.mergeSort_perm _ _
theorem srtR_sorted (l : List (List Nat)) : (srt eR l).Pairwise fun p q => asI p ≤ asI q := by
  have := List.pairwise_mergeSort (le := PySem.W.dataLe false eR) (fun a b c h1 h2 => ?_) (fun a b => ?_) l
  · refine this.imp fun {a b} h => ?_
    rw [le_rows] at h
    exact of_decide_eq_true h
  · rw [le_rows] at h1 h2 ⊢
    exact decide_eq_true (List.le_trans (of_decide_eq_true h1) (of_decide_eq_true h2))
  · rw [le_rows]
    rcases List.le_total (asI a) (asI b) with h | h
    · simp [h]
    · simp [h]
theorem srtR_uniq {l m : List (List Nat)} (hl : l.Nodup) (hm : m.Nodup) (h : ∀ x, x ∈ l ↔ x ∈ m) : srt eR l = srt eR m := by
  refine sorted_uniq (le := fun p q => asI p ≤ asI q) (fun a b h1 h2 => ?_) (srtR_sorted l) (srtR_sorted m) ((srt_perm eR l).trans ((perm_of_nodup hl hm h).trans (srt_perm eR m).symm))
  have e : asI a = asI b := List.le_antisymm h1 h2
  exact List.map_inj_right (fun x y z => by omega) |>.mp e
abbrev ltP2 (p q : Nat × Nat) : Prop := p.1 < q.1 ∨ (p.1 = q.1 ∧ p.2 < q.2)
/-- a sorted list of pairs, none twice -/
abbrev SrtP (l : List (Nat × Nat)) : Prop := l.Pairwise ltP2
theorem srtP_uniq {l m : List (Nat × Nat)} (hl : SrtP l) (hm : SrtP m) (h : ∀ x, x ∈ l ↔ x ∈ m) : l = m := by
  have nd : ∀ {l : List (Nat × Nat)}, SrtP l → l.Nodup := fun h => h.imp fun {a b} h e => by subst e; omega
  refine sorted_uniq (le := ltP2) (fun a b h1 h2 => ?_) hl hm (perm_of_nodup (nd hl) (nd hm) h)
  omega
theorem srtP_of {l : List (Nat × Nat)} (hl : l.Nodup) : SrtP (srt eP l) := by
  have := List.pairwise_mergeSort (le := PySem.W.dataLe false eP) (fun a b c h1 h2 => ?_) (fun a b => ?_) l
  · have nd : (srt eP l).Nodup := (srt_perm eP l).nodup_iff.mpr hl
    refine (List.Pairwise.and this nd).imp fun {a b} h => ?_
    obtain ⟨h1, h2⟩ := h
    rw [le_pairs] at h1
    have h1 := of_decide_eq_true h1
    have : ¬ (a.1 = b.1 ∧ a.2 = b.2) := fun z => h2 (Prod.ext z.1 z.2)
    show a.1 < b.1 ∨ (a.1 = b.1 ∧ a.2 < b.2)
    omega
  · rw [le_pairs] at h1 h2 ⊢
    have h1 := of_decide_eq_true h1
    have h2 := of_decide_eq_true h2
    exact decide_eq_true (by omega)
  · rw [le_pairs]
    simp only [Bool.or_eq_true, decide_eq_true_eq]
    omega
theorem ok_srtR {l : List (List Nat)} (h : ∀ r ∈ l, r ≠ []) (hL : l.length ≤ sizeLine) : SrtOk eR l := by
  refine ⟨?_, .inl fun d hd => ?_, fun r _ => ?_, hL⟩
  · refine PySem.W.AllAlike.of fun a b => ?_
    have e : ∀ r : List Nat, r.map eI = (asI r).map PyData.int := fun r => by rw [List.map_map]; rfl
    show PySem.W.alike (.tuple (a.map eI)) (.tuple (b.map eI)) = true
    rw [PySem.W.alike, e, e]
    exact PySem.W.alike_ints _ _
  · obtain ⟨r, hr, rfl⟩ := List.mem_map.mp hd
    cases r with
    | nil => exact absurd rfl (h [] hr)
    | cons x r => exact ⟨_, _, rfl⟩
  · have e : r.map eI = (asI r).map PyData.int := by rw [List.map_map]; rfl
    show PyData.depth (.tuple (r.map eI)) ≤ 8
    rw [PyData.depth, e, PySem.W.depth_ints]
    decide
theorem ok_srtP {l : List (Nat × Nat)} (hL : l.length ≤ sizeLine) : SrtOk eP l := by
  refine ⟨PySem.W.AllAlike.of fun a b => by simp [PySem.W.alike, PySem.W.alikeAll], PySem.W.Sortable.tuples fun b => ⟨_, _, rfl⟩, fun b _ => by simp [PyData.depth, PyData.depthAll], hL⟩
end K78

/-! text F2 -/
set_option Elab.async false
set_option linter.all false
set_option maxRecDepth 100000
set_option maxHeartbeats 4000000
namespace K78
open PySem PySem.Spec PyProof.Rows L2

theorem iteTb {A B : Prop} {b : Bool} (h : b = true) (x : A) : if b = true then A else B := by rw [if_pos h]; exact x
theorem iteFb {A B : Prop} {b : Bool} (h : b = false) (x : B) : if b = true then A else B := by rw [if_neg (by rw [h]; exact Bool.false_ne_true)]; exact x
/-! ### lists, plain -/
theorem nodup_le {α : Type} [DecidableEq α] : ∀ {l m : List α}, l.Nodup → (∀ x ∈ l, x ∈ m) → l.length ≤ m.length
  | [], _, _, _ => Nat.zero_le _
  | x :: l, m, hl, h => by
    have hx : x ∈ m := h x List.mem_cons_self
    have e := List.length_erase_of_mem hx
    have hl' := List.nodup_cons.mp hl
    have := nodup_le (l := l) (m := m.erase x) hl'.2 fun y hy => (List.mem_erase_of_ne (fun z => hl'.1 (by rw [← z]; exact hy))).mpr (h y (List.mem_cons_of_mem _ hy))
    have hp : 0 < m.length := List.length_pos_of_mem hx
    simp only [List.length_cons]
    omega
def allRows (n : Nat) : Nat → List (List Nat)
  | 0 => [[]]
  | m + 1 => (allRows n m).flatMap fun r => (List.range n).map fun a => a :: r
theorem allRows_len (n : Nat) : ∀ m, (allRows n m).length = n ^ m
  | 0 => rfl
  | m + 1 => by
    have ih := allRows_len n m
    show ((allRows n m).flatMap fun r => (List.range n).map fun a => a :: r).length = _
    have gen : ∀ L : List (List Nat), (L.flatMap fun r => (List.range n).map fun a => a :: r).length = L.length * n := by
      intro L
      induction L with
      | nil => simp
      | cons r L ih => rw [List.flatMap_cons, List.length_append, ih, List.length_map, List.length_range, List.length_cons, Nat.succ_mul, Nat.add_comm]
    rw [gen, ih, Nat.pow_succ]
theorem allRows_mem {n : Nat} : ∀ {m : Nat} {r : List Nat}, r.length = m → (∀ s ∈ r, s < n) → r ∈ allRows n m
  | 0, [], _, _ => List.mem_singleton.mpr rfl
  | 0, _ :: _, h, _ => by simp at h
  | m + 1, [], h, _ => by simp at h
  | m + 1, a :: r, h, hb => List.mem_flatMap.mpr ⟨r, allRows_mem (by simpa using h) fun s hs => hb s (List.mem_cons_of_mem _ hs), List.mem_map.mpr ⟨a, List.mem_range.mpr (hb a List.mem_cons_self), rfl⟩⟩
theorem rows_few {n : Nat} {l : List (List Nat)} (hl : l.Nodup) (h : ∀ r ∈ l, r.length = n ∧ ∀ s ∈ r, s < n) (hn : n ≤ 5) : l.length ≤ 3125 := by
  have := nodup_le hl fun r hr => allRows_mem (n := n) (h r hr).1 (h r hr).2
  rw [allRows_len] at this
  have h2 : n ^ n ≤ 3125 := by
    have : n = 0 ∨ n = 1 ∨ n = 2 ∨ n = 3 ∨ n = 4 ∨ n = 5 := by omega
    rcases this with rfl | rfl | rfl | rfl | rfl | rfl <;> decide
  omega

/-! ### effects -/
def singleF (rows : List (List Nat)) (c : Nat) : List Nat := rows.map (·.getD c 0)
def singlesF (k : Nat) (rows : List (List Nat)) : List (List Nat) := (List.range k).map (singleF rows)
inductive IsEff (k : Nat) (rows : List (List Nat)) : List Nat → Prop
  | start : IsEff k rows (List.range rows.length)
  | step {e : List Nat} {c : Nat} : IsEff k rows e → c < k → IsEff k rows (followedF (singleF rows c) e)
section
variable {k : Nat} {rows : List (List Nat)}
theorem singleF_len {c : Nat} : (singleF rows c).length = rows.length := by simp [singleF]
theorem singleF_lt (ok : OkM k rows) {c : Nat} (hc : c < k) : ∀ s ∈ singleF rows c, s < rows.length := by
  intro s hs
  obtain ⟨r, hr, rfl⟩ := List.mem_map.mp hs
  have h := ok.rl r hr
  have : r.getD c 0 = r[c]'(by omega) := by simp [List.getD, show c < r.length by omega]
  rw [this]
  exact ok.rb r hr _ (List.getElem_mem _)
theorem isEff_ok (ok : OkM k rows) {e : List Nat} (h : IsEff k rows e) : e.length = rows.length ∧ ∀ s ∈ e, s < rows.length := by
  induction h with
  | start => exact ⟨by simp, fun s hs => List.mem_range.mp hs⟩
  | @step e c h hc ih =>
    refine ⟨by simp [followedF, singleF], fun s hs => ?_⟩
    obtain ⟨t, ht, rfl⟩ := List.mem_map.mp hs
    have h1 := singleF_lt ok hc t ht
    have : e.getD t 0 = e[t]'(by omega) := by simp [List.getD, show t < e.length by omega]
    rw [this]
    exact ih.2 _ (List.getElem_mem _)
end

section
variable {P : Program} {w : World} {K : PySem.W.Frag} {mg : Str → Option Value} {base : Heap} {C : Addr}
/-! ### single_effects -/
def spSingles (K : PySem.W.Frag) (C : Addr) : Sp := pureSp fun G vs Post => ∃ v k rows, vs = [v] ∧ Mac K C G v k rows ∧ OkM k rows ∧ Post = fun G' u => Ld K G' u ((singlesF k rows).map eR)
theorem sc_single_effects : FnScope ["machine", "row", "command"] ["machine"] (defScope s_single_effects) := ⟨rfl, rfl, rfl, by decide +kernel, rfl, by decide +kernel, by decide +kernel⟩
theorem ok_single_effects (T : Txt K mg C) (F : HasD K mg "single_effects" s_single_effects) : Def P w K mg base "single_effects" 1 ["machine"] (spSingles K C) := by
  refine mkDef F sc_single_effects (fun _ _ _ _ _ _ us hl => match us, hl with | [_], _ => rfl) (fun vs H Q E h => ?_) fun f cdv A outer s H vs Q E hr h => ?_
  · obtain ⟨G, Post, _, ⟨v, k, rows, rfl, _⟩, _⟩ := h
    rfl
  · obtain ⟨G, Post, gh, ⟨v, k, rows, rfl, hm, ok, rfl⟩, q⟩ := h
    refine ⟨_, (pss_one (ps_ret (pe_lc (own := [("command", 2)]) rfl sc_single_effects.nd (pi_range1 (by rfl) T.f_range (pa_cons (pf K (pv 0)) pa_nil)) (blkOk_by (own := [("command", 2)]) (by kernel_rfl)) (fun _ _ _ _ _ => (pg_name (i := 2) sc_single_effects.nd rfl (by first | exact Or.inl rfl | exact Or.inr rfl))) (fun _ _ _ _ _ => pts_nil) (fun _ _ _ _ _ => (pe_callTy (tupOf K) (by rfl) T.f_tuple (by decide +kernel) (pa_cons (pe_lc (own := [("row", 1)]) rfl sc_single_effects.nd (piT K (pf K (pv 0))) (blkOk_by (own := [("row", 1)]) (by kernel_rfl)) (fun _ _ _ _ _ => (pg_name (i := 1) sc_single_effects.nd rfl (by first | exact Or.inl rfl | exact Or.inr rfl))) (fun _ _ _ _ _ => pts_nil) (fun _ _ _ _ _ => (pe_ix (ixT K) (pv 1) (pv 2) (fun _ _ => rfl)))) pa_nil)))))), ?_⟩
    obtain ⟨p, dx, st, rfl, hp, hst⟩ := hm
    refine ⟨_, rfl, p, C, dx, _, _, rfl, gh _ _ hp, T.cl, T.nC, lk_commands, (k : Int), rfl, by omega, by have := ok.k9; omega, fun D hD => ?_⟩
    rw [Int.toNat_natCast]
    refine lcRD (K := K) ((singlesF k rows).map eR) (by simp [singlesF]) gh hD (fun _ => rfl) (by have := ok.k9; omega) (fun c r hc hr G1 H1 e1 Q1 q1 => ?_) fun G1 H1 e1 d1 => q _ _ _ e1 d1
    obtain rfl : r = eR (singleF rows c) := by simp [singlesF, hc] at hr; exact hr.symm
    obtain ⟨a, xs, rfl, hs, hxs⟩ := dp_tuple (dp_up e1.gg hst)
    have hl := dpA_len hxs
    rw [List.length_map] at hl
    refine ⟨_, rfl, p, C, dx, _, _, rfl, (e1.gg.trans e1.gh) _ _ hp, T.cl, T.nT, lk_steps, a, rfl, ⟨_, same_t e1.gh hs⟩, fun D2 hD2 => lcTD (K := K) ((singleF rows c).map eI) (by simp [singleF, hl]) e1.gh hs hD2 (fun _ => rfl) (by have := ok.n9; omega) (fun j x r hj hr G2 H2 e2 Q2 q2 => ?_) fun G2 H2 e2 d2 => rd_tupOf d2 e2.gh fun p G3 H3 e3 d3 => q1 _ _ _ (e2.trans e3) d3⟩
    have hjr : j < rows.length := by rw [← hl]; exact (List.getElem?_eq_some_iff.mp hj).1
    obtain ⟨d, hd, hx⟩ := dpA_at' hxs hj
    obtain rfl : d = eR rows[j] := by simp [hjr] at hd; exact hd.symm
    have hlen := ok.rl _ (List.getElem_mem hjr)
    obtain rfl : r = eI (rows[j][c]'(by omega)) := by
      simp [singleF, hjr] at hr
      rw [← hr]
      simp [List.getD, show c < rows[j].length by omega]
    refine ⟨_, rfl, _, rfl, ?_⟩
    rw [Int.zero_add]
    exact rd_nat (dp_up e2.gg hx) e2.gh (by omega) (q2 _ _ _ (Ext.refl e2.gh) (.int _))
end
end K78

/-! text F3 -/
set_option Elab.async false
set_option linter.all false
set_option maxRecDepth 100000
set_option maxHeartbeats 4000000
namespace K78
open PySem PySem.Spec PyProof.Rows L2

/-! ### all_effects, plain -/
structure EInv (k : Nat) (rows fk fr : List (List Nat)) (e0 : List Nat) (i : Nat) : Prop where
  nd : fk.Nodup
  eff : ∀ e ∈ fk, IsEff k rows e
  st : List.range rows.length ∈ fk
  sub : ∀ e ∈ fr, e ∈ fk
  cl : ∀ e ∈ fk, e ∉ fr → ∀ c, c < (if e = e0 then i else k) → followedF (singleF rows c) e ∈ fk
section
variable {k : Nat} {rows fk fr : List (List Nat)} {e0 e1 : List Nat} {i : Nat}
theorem EInv.init : EInv k rows [List.range rows.length] [List.range rows.length] e0 i :=
  ⟨by simp, fun e h => by rw [List.mem_singleton.mp h]; exact .start, by simp, fun e h => h, fun e h1 h2 => absurd h1 h2⟩
theorem EInv.pop (v : EInv k rows fk (fr ++ [e0]) e1 k) : EInv k rows fk fr e0 0 := by
  refine ⟨v.nd, v.eff, v.st, fun e h => v.sub e (by simp [h]), fun e h1 h2 c hc => ?_⟩
  by_cases z : e = e0
  · rw [if_pos z] at hc; omega
  · rw [if_neg z] at hc
    exact v.cl e h1 (by simp [h2, z]) c (by split <;> exact hc)
theorem EInv.old (v : EInv k rows fk fr e0 i) (h : followedF (singleF rows i) e0 ∈ fk) : EInv k rows fk fr e0 (i + 1) := by
  refine ⟨v.nd, v.eff, v.st, v.sub, fun e h1 h2 c hc => ?_⟩
  have q := v.cl e h1 h2 c
  by_cases z : e = e0
  · rw [if_pos z] at hc q
    by_cases y : c < i
    · exact q y
    · rw [z, show c = i by omega]; exact h
  · rw [if_neg z] at hc q
    exact q hc
theorem EInv.new (v : EInv k rows fk fr e0 i) (h : followedF (singleF rows i) e0 ∉ fk) (h0 : e0 ∈ fk) (hi : i < k) : EInv k rows (fk ++ [followedF (singleF rows i) e0]) (fr ++ [followedF (singleF rows i) e0]) e0 (i + 1) := by
  refine ⟨?_, fun e he => ?_, by simp [v.st], fun e he => ?_, fun e h1 h2 c hc => ?_⟩
  · rw [List.nodup_append]
    exact ⟨v.nd, by simp, fun a ha b hb e => h (by rw [List.mem_singleton.mp hb] at e; rw [← e]; exact ha)⟩
  · rcases List.mem_append.mp he with he | he
    · exact v.eff e he
    · rw [List.mem_singleton.mp he]
      exact .step (v.eff _ h0) hi
  · rcases List.mem_append.mp he with he | he
    · exact List.mem_append_left _ (v.sub e he)
    · exact List.mem_append_right _ he
  · simp only [List.mem_append, List.mem_singleton, not_or] at h1 h2 ⊢
    rcases h1 with h1 | h1
    · have q := v.cl e h1 h2.1 c
      by_cases z : e = e0
      · rw [if_pos z] at hc q
        by_cases y : c < i
        · exact .inl (q y)
        · rw [z, show c = i by omega]; exact .inr rfl
      · rw [if_neg z] at hc q
        exact .inl (q hc)
    · exact absurd h1 h2.2
theorem EInv.all (v : EInv k rows fk [] e0 k) : ∀ e, e ∈ fk ↔ IsEff k rows e := by
  refine fun e => ⟨v.eff e, fun h => ?_⟩
  induction h with
  | start => exact v.st
  | @step e c _ hc ih => exact v.cl e ih (by simp) c (by split <;> exact hc)
theorem EInv.few (v : EInv k rows fk fr e0 i) (ok : OkM k rows) (hn : rows.length ≤ 5) : fk.length ≤ 3125 := rows_few v.nd (fun r hr => isEff_ok ok (v.eff r hr)) hn
end
theorem dpA_snoc {K : PySem.W.Frag} {H : Hp} : ∀ {ds : List PyData} {xs : List V} {d : PyData}, DpAll K H xs (ds ++ [d]) → ∃ ys y, xs = ys ++ [y] ∧ DpAll K H ys ds ∧ Dp K H y d
  | [], _, _, h => by
    cases h with
    | cons h1 h2 => cases h2; exact ⟨[], _, rfl, .nil, h1⟩
  | c :: ds, _, d, h => by
    rw [List.cons_append] at h
    cases h with
    | cons h1 h2 =>
      obtain ⟨ys, y, rfl, h3, h4⟩ := dpA_snoc h2
      exact ⟨_ :: ys, y, rfl, .cons h1 h3, h4⟩
/-- all effects, sorted -/
def AllEff (k : Nat) (rows E : List (List Nat)) : Prop := ∃ L : List (List Nat), L.Nodup ∧ (∀ e, e ∈ L ↔ IsEff k rows e) ∧ E = srt eR L
section
variable {P : Program} {w : World} {K : PySem.W.Frag} {mg : Str → Option Value} {base : Heap} {C : Addr}
def spAllEff (K : PySem.W.Frag) (C : Addr) : Sp := pureSp fun G vs Post => ∃ v k rows, vs = [v] ∧ Mac K C G v k rows ∧ OkM k rows ∧ rows.length ≤ 5 ∧ Post = fun G' u => ∃ E, AllEff k rows E ∧ Ld K G' u (E.map eR)
theorem rg_nat (n : Nat) : rgV 0 (n : Int) = (List.range n).map vI := by
  unfold rgV
  rw [Int.sub_zero, Int.toNat_natCast]
  refine List.map_congr_left fun i _ => ?_
  rw [Int.zero_add]
/-- what stands at the loops' heads -/
structure AeSt (P : Program) (w : World) (K : PySem.W.Frag) (G0 H0 : Hp) (a l : Addr) (G' H' : Hp) (fk fr : List (List Nat)) : Prop where
  e : Ext [] G0 H0 G' H'
  ha : H0 a = none
  hl : H0 l = none
  al : a ≠ l
  ga : G' a = none
  gl : G' l = none
  da : ∃ kvs, DAt P w K G' H' a kvs ∧ Ks eR kvs fk
  dl : ∃ xs, H' l = some (.lst xs) ∧ DpAll K G' xs (fr.map eR)
theorem AeSt.over {G0 H0 G' H' G2 H2 : Hp} {a l : Addr} {fk fr : List (List Nat)} (s : AeSt P w K G0 H0 a l G' H' fk fr) (e : Ext [] G' H' G2 H2) : AeSt P w K G0 H0 a l G2 H2 fk fr := by
  obtain ⟨kvs, D, hk⟩ := s.da
  obtain ⟨xs, h1, h2⟩ := s.dl
  obtain ⟨ys, h3, h4⟩ := D.ex
  obtain ⟨y1, y2⟩ := e.keepM h3 s.ga (by simp)
  obtain ⟨z1, z2⟩ := e.keepM h1 s.gl (by simp)
  exact ⟨s.e.trans e, s.ha, s.hl, s.al, y2, z2, ⟨kvs, dat_up D e.gg (by rw [y1, h3]), hk⟩, xs, z1, dpA_up e.gg h2⟩
theorem sc_all_effects : FnScope ["machine", "start", "singles", "found", "fresh", "one", "single", "longer"] ["machine"] (defScope s_all_effects) := ⟨rfl, rfl, rfl, by decide +kernel, rfl, by decide +kernel, by decide +kernel⟩
theorem ok_all_effects (T : Txt K mg C) (F : HasD K mg "all_effects" s_all_effects) (d_single_effects : Def P w K mg base "single_effects" 1 ["machine"] (spSingles K C)) (d_followed : Def P w K mg base "followed" 1 ["one", "other"] (spFollowed K)) : Def P w K mg base "all_effects" 2 ["machine"] (spAllEff K C) := by
  refine mkDef F sc_all_effects (fun _ _ _ _ _ _ us hl => match us, hl with | [_], _ => rfl) (fun vs H Q E h => ?_) fun f cdv A outer s H vs Q E hr h => ?_
  · obtain ⟨G, Post, _, ⟨v, k, rows, rfl, _⟩, _⟩ := h
    rfl
  · obtain ⟨G, Post, gh, ⟨v, k, rows, rfl, hm, ok, hn, rfl⟩, q⟩ := h
    refine ⟨_, (pss_cons (ps_par (i := 1) (j := 2) rfl sc_all_effects.nd rfl rfl (by decide) rfl rfl (pa_cons (pe_tupRg rfl (by rfl) T.f_tuple (prg_1 (by rfl) T.f_range (pf K (pv 0)))) (pa_cons (pe_def d_single_effects (hr.mono (by decide)) (by rfl) (pa_cons (pv 0) pa_nil)) pa_nil)) (by rfl)) (pss_cons (ps_par (i := 3) (j := 4) rfl sc_all_effects.nd rfl rfl (by decide) rfl rfl (pa_cons (disp1N P w K (hu9 hr) (pv 1) pe_bl) (pa_cons (pe_lst (pa_cons (pv 1) pa_nil)) pa_nil)) (by rfl)) (pss_cons (ps_while PassesOwn.never (pt_cmpR op_gt (pe_callB (lenS K) (by rfl) T.f_len (by decide +kernel) (pa_cons (pv 4) pa_nil)) pe_int (nomark _)) (pss_cons (ps_set (i := 5) sc_all_effects.nd rfl (by first | exact Or.inl rfl | exact Or.inr rfl) (pe_bm0 PySem.F.plainAttrs_list PySem.F.slot_list_pop PySem.F.type_list_pop mt_pop (pv 4))) (pss_one (ps_for PassesOwn.never rfl (piL K (pv 2)) (pg_name (i := 6) sc_all_effects.nd rfl (by first | exact Or.inl rfl | exact Or.inr rfl)) (pss_cons (ps_set (i := 7) sc_all_effects.nd rfl (by first | exact Or.inl rfl | exact Or.inr rfl) (pe_def d_followed (hr.mono (by decide)) (by rfl) (pa_cons (pv 6) (pa_cons (pv 5) pa_nil)))) (pss_one (ps_if (pt_cmpR (niN P w K (hu9 hr)) (pv 7) (pv 3) (by rfl)) (pss_cons (dputN P w K (hu9 hr) (pv 3) (pv 7) pe_bl) (pss_one (ps_expr (pe_bm PySem.F.plainAttrs_list PySem.F.slot_list_append PySem.F.type_list_append mt_append (pv 4) (pa_cons (pv 7) pa_nil))))) pss_nil))))))) (pss_one (ps_ret (pe_callB (sortB K (hu64 hr)) (by rfl) T.f_sorted (by decide +kernel) (pa_cons (pe_callTy (listN P w K) (by rfl) T.f_list (by decide +kernel) (pa_cons (pv 3) pa_nil)) pa_nil))))))), ?_⟩
    have hm0 := hm
    obtain ⟨p, dx, st, rfl, hp, hst⟩ := hm
    refine ⟨_, rfl, p, C, dx, _, _, rfl, gh _ _ hp, T.cl, T.nS, lk_states, (rows.length : Int), rfl, RgOk.of_le (by omega) (by omega) (by omega) (by omega), fun q1 hq1 => ?_⟩
    rw [rg_nat]
    have e1 := (Ext.refl (X := []) gh).new (o := .tup ((List.range rows.length).map vI)) hq1
    have d1 : Dp K _ (.ref q1) (eR (List.range rows.length)) := tup_new gh hq1 (dpA_ints (List.range rows.length))
    generalize upd G q1 (.tup ((List.range rows.length).map vI)) = G1 at e1 d1
    generalize upd H q1 (.tup ((List.range rows.length).map vI)) = H1 at e1 ⊢
    refine ⟨_, rfl, G1, _, e1.gh, ⟨_, k, rows, rfl, mac_up e1.gg hm0, ok, rfl⟩, fun sv G2 H2 e2 d2 => ⟨_, _, rfl, ?_⟩⟩
    have e12 := e1.trans e2
    have d1' := dp_up e2.gg d1
    obtain ⟨sl, sx, rfl, hs1, hs2⟩ := d2
    refine fun a ha => ⟨_, rfl, G2, toK (eR (List.range rows.length)), e2.gh.trans (same_new (L2.Same.refl _) ha), e2.gh.free ha, upd_same, kd_row d1', fun o hD => ⟨_, rfl, (by show 1 ≤ sizeLine; decide), fun l hl => ⟨_, _, rfl, ?_⟩⟩⟩
    have e3 := ((Ext.refl (X := []) gh).trans e12)
    have hne : a ≠ l := fun z => by rw [z, upd_same] at hl; cases hl
    have hla : H2 l = none := by rw [upd_ne (Ne.symm hne), upd_ne (Ne.symm hne)] at hl; exact hl
    have s0 : AeSt P w K G H a l G2 (upd (upd (upd H2 a (DN P w a [])) a o) l (.lst [.ref q1])) [List.range rows.length] [List.range rows.length] := by
      refine ⟨((e12.newM ha).mut (.inl (e12.base ha)) (e2.gh.free ha)).newM hl, e12.base ha, e12.base hla, hne, e2.gh.free ha, e2.gh.free hla, ⟨[(toK (eR (List.range rows.length)), .bl true)], dat_up hD (L2.Same.refl _) (upd_ne hne), rfl⟩, ⟨_, upd_same, .cons d1' .nil⟩⟩
    generalize upd (upd (upd H2 a (DN P w a [])) a o) l (.lst [.ref q1]) = H3 at s0
    clear hD hl ha
    have hmG : ∀ {G' H'}, Ext [] G H G' H' → Mac K C G' (.ref p) k rows := fun e => mac_up e.gg hm0
    refine ⟨fun m σ H' => ∃ G' fk fr e0 v5 v6 v7, AeSt P w K G H a l G' H' fk fr ∧ L2.Same G2 G' ∧ EInv k rows fk fr e0 k ∧ m = 2 * (3125 - fk.length) + fr.length ∧ m ≤ 6250 ∧ σ = [some (.ref p), some (.ref q1), some (.ref sl), some (.ref a), some (.ref l), v5, v6, v7],
      ⟨_, G2, _, _, [], none, none, none, s0, L2.Same.refl _, .init, rfl, by simp, rfl⟩, ?_⟩
    rintro m σ H' ⟨G', fk, fr, e0, v5, v6, v7, st, g2, inv, rfl, hM, rfl⟩
    obtain ⟨xs, hl1, hl2⟩ := st.dl
    have hlen := dpA_len hl2
    rw [List.length_map] at hlen
    refine ⟨_, rfl, l, xs, rfl, .inl (.of hl1), _, _, rfl, rfl, _, rfl, ?_⟩
    by_cases hz : xs.length = 0
    · -- the end
      refine iteFb (decide_eq_false (by omega)) ?_
      have hfr : fr = [] := List.eq_nil_of_length_eq_zero (by omega)
      subst hfr
      obtain ⟨kvs, D, hks⟩ := st.da
      refine ⟨_, rfl, a, G', kvs, rfl, st.e.gh, D, by rw [hks.length]; exact Nat.le_trans (inv.few ok hn) (by decide), fun t bs ht hbs => ?_⟩
      have e4 := (Ext.refl (X := []) st.e.gh).new (o := .lst (bs.map V.ref)) ht
      have hbd : DpAll K G' (bs.map V.ref) (fk.map eR) := by
        refine dpA_of (by rw [List.length_map, List.length_map, hbs.1, hks.length]) fun i u d h1 h2 => ?_
        rw [List.getElem?_map] at h1 h2
        cases zb : bs[i]? with
        | none => rw [zb] at h1; cases h1
        | some b =>
          cases zf : fk[i]? with
          | none => rw [zf] at h2; cases h2
          | some r =>
            rw [zb] at h1
            rw [zf] at h2
            cases h1
            cases h2
            have zk : ∃ pk, kvs[i]? = some pk := by
              have : i < kvs.length := by rw [hks.length]; exact (List.getElem?_eq_some_iff.mp zf).1
              exact ⟨_, List.getElem?_eq_getElem this⟩
            obtain ⟨pk, hpk⟩ := zk
            have hkd := hbs.2 i b pk zb hpk
            have : pk.1 = toK (eR r) := by
              have z := congrArg (fun l => l[i]?) hks
              simp [hpk, zf] at z
              exact z
            rw [this] at hkd
            exact kd_dp K hkd (ok_row r)
      have gne : ∀ b o, G' b = some o → upd G' t (.lst (bs.map V.ref)) b = some o := fun b o hb => by rw [upd_ne (ne_of_none hb (st.e.gh.free ht))]; exact hb
      refine ⟨_, eR, fk, .ref t, upd G' t (.lst (bs.map V.ref)), rfl, e4.gh, .lst (.of upd_same) (dpA_up gne hbd), ok_srtR (fun r hr z => ?_) (Nat.le_trans (inv.few ok hn) (by decide)), fun t2 ys ht2 hys => ?_⟩
      · have := (isEff_ok ok (inv.eff r hr)).1
        rw [z] at this
        have := ok.n1
        simp at *
        omega
      · have e5 := e4.new (o := .lst ys) ht2
        exact q _ _ _ (st.e.trans e5) ⟨_, ⟨fk, inv.nd, inv.all, rfl⟩, t2, ys, rfl, upd_same, dpA_up (fun b o hb => by rw [upd_ne (ne_of_none hb (e4.gh.free ht2))]; exact hb) hys⟩
    · refine iteTb (decide_eq_true (by omega)) ?_
      refine ⟨fun σ' H' => _, fun _ _ h => h, ?_⟩
      obtain ⟨fr', e1', rfl⟩ : ∃ fr' e1', fr = fr' ++ [e1'] := by
        refine ⟨fr.dropLast, fr.getLast (fun z => hz (by rw [hlen, z]; rfl)), ?_⟩
        exact (List.dropLast_concat_getLast _).symm
      rw [List.map_append] at hl2
      obtain ⟨ys, y, rfl, hy1, hy2⟩ := dpA_snoc hl2
      refine ⟨_, rfl, .inl ⟨rfl, _, .of hl1⟩, l, ys ++ [y], y, rfl, rfl, hl1, by rw [show (ys ++ [y]).length - 1 = ys.length by simp, List.getElem?_append_right (Nat.le_refl _), Nat.sub_self]; rfl, ?_⟩
      rw [List.dropLast_concat]
      have st2 : AeSt P w K G H a l G' (upd H' l (.lst ys)) fk fr' := by
        obtain ⟨kvs, D, hk⟩ := st.da
        exact ⟨st.e.mut (.inl st.hl) st.gl, st.ha, st.hl, st.al, st.ga, st.gl, ⟨kvs, dat_up D (L2.Same.refl _) (upd_ne st.al), hk⟩, ys, upd_same, hy1⟩
      have inv2 := inv.pop
      have h0 : e1' ∈ fk := inv.sub _ (by simp)
      have hmu : 2 * (3125 - fk.length) + fr'.length + 1 ≤ 2 * (3125 - fk.length) + (fr' ++ [e1']).length := by simp only [List.length_append, List.length_singleton]; omega
      generalize 2 * (3125 - fk.length) + (fr' ++ [e1']).length = M at hmu hM ⊢
      generalize upd H' l (.lst ys) = H4 at st2
      have hslen := dpA_len hs2
      simp only [singlesF, List.length_map, List.length_range] at hslen
      refine ⟨_, rfl, sl, rfl, ⟨sx, (g2.trans st2.e.gh) _ _ hs1 |> SqL.of⟩, for_it (walk_list (K := K) (a := sl) (xs := sx)) (fun i σ H' => ∃ G'' fk fr v6 v7, AeSt P w K G H a l G'' H' fk fr ∧ L2.Same G' G'' ∧ EInv k rows fk fr e1' i ∧ e1' ∈ fk ∧ 2 * (3125 - fk.length) + fr.length + 1 ≤ M ∧ σ = [some (.ref p), some (.ref q1), some (.ref sl), some (.ref a), some (.ref l), some y, v6, v7])
        ⟨G', fk, fr', v6, v7, st2, L2.Same.refl _, inv2, h0, hmu, rfl⟩ (fun i σ H' _ ⟨G'', _, _, _, _, st, g, _⟩ => SqL.of (((g2.trans g).trans st.e.gh) _ _ hs1)) ?_ ?_⟩
      · rintro i x σ H' H'' hi ⟨G'', fk, fr, v6, v7, st, g, inv, he, hm, rfl⟩ ⟨rfl, hx⟩
        have hik : i < k := by rw [← hslen]; exact hi
        obtain ⟨d, hd, hx2⟩ := dpA_at' hs2 hx
        obtain rfl : d = eR (singleF rows i) := by simp [singlesF, hik] at hd; exact hd.symm
        have eok := isEff_ok ok (inv.eff _ he)
        refine ⟨_, rfl, _, rfl, G'', _, st.e.gh, ⟨x, y, singleF rows i, e1', rfl, dp_up (g2.trans g) hx2, dp_up g hy2, fun s hs => by rw [eok.1]; exact singleF_lt ok hik s hs, by rw [singleF_len]; omega, rfl⟩, fun u G3 H3 e3 d3 => ?_⟩
        have st3 := st.over e3
        generalize hnw : followedF (singleF rows i) e1' = nw at d3
        obtain ⟨kvs, D, hk⟩ := st3.da
        refine ⟨_, rfl, _, rfl, a, G3, kvs, toK (eR nw), rfl, st3.e.gh, D, kd_row d3, _, rfl, ?_⟩
        by_cases hin : nw ∈ fk
        · refine iteFb (by rw [(hk.val_in kRow).mpr hin]; rfl) ⟨G3, fk, fr, _, _, st3, g.trans e3.gg, inv.old (by rw [hnw]; exact hin), he, hm, rfl⟩
        · have hnone : (valV kvs (toK (eR nw))).isSome = false := by
            cases z : (valV kvs (toK (eR nw))).isSome with
            | false => rfl
            | true => exact absurd ((hk.val_in kRow).mp z) hin
          refine iteTb (by rw [hnone]; rfl) ?_
          have hfew := inv.few ok hn
          refine ⟨_, rfl, _, rfl, a, G3, kvs, toK (eR nw), rfl, st3.e.gh, st3.ga, D, kd_row d3, by rw [hk.length]; exact Nat.lt_of_le_of_lt hfew (by decide), fun o D4 => ?_⟩
          obtain ⟨zs, hz1, hz2⟩ := st3.dl
          have inv4 := inv.new (by rw [hnw]; exact hin) he hik
          rw [hnw] at inv4
          have hf4 := inv4.few ok hn
          rw [List.length_append, List.length_singleton] at hf4
          have hzl := dpA_len hz2
          rw [List.length_map] at hzl
          have hz3 : upd H3 a o l = some (.lst zs) := by rw [upd_ne (Ne.symm st3.al)]; exact hz1
          refine ⟨_, rfl, .inl ⟨rfl, _, .of hz3⟩, _, rfl, l, zs, u, rfl, rfl, hz3, ?_, ?_⟩
          · rw [hzl]
            exact Nat.lt_of_le_of_lt (show fr.length ≤ 6250 by omega) (by decide)
          · refine ⟨G3, fk ++ [nw], fr ++ [nw], _, _, ⟨(st3.e.mut (.inl st3.ha) st3.ga).mut (.inl st3.hl) st3.gl, st3.ha, st3.hl, st3.al, st3.ga, st3.gl, ⟨_, dat_up D4 (L2.Same.refl _) (upd_ne st3.al), hk.put_new kRow hin⟩, _, upd_same, ?_⟩, g.trans e3.gg, inv4, by simp [he], ?_, rfl⟩
            · rw [List.map_append]
              exact dpA_app hz2 (.cons d3 .nil)
            · simp only [List.length_append, List.length_singleton]
              omega
      · rintro σ H' ⟨G'', fk, fr, v6, v7, st, g, inv, _, hm, rfl⟩
        rw [hslen] at inv
        exact ⟨_, Nat.lt_of_succ_le hm, G'', fk, fr, e1', _, _, _, st, g2.trans g, inv, rfl, by omega, rfl⟩
end
end K78

/-! text F4 -/
set_option Elab.async false
set_option linter.all false
set_option maxRecDepth 100000
set_option maxHeartbeats 4000000
namespace K78
open PySem PySem.Spec PyProof.Rows L2

theorem loopC_it {J : It} {n : Nat} {Gd : Hp → Prop} {Y : Nat → Hp → V → Hp → Prop} (w : Walk J n Gd Y) {g : TG} {tt : TT} {tem : L2.St → Hp → (Hp → Prop) → Prop} {σ : L2.St} {vs : List Nat} {Qd : Hp → Prop} {H0 : Hp} (Pv : Nat → Hp → Prop) (h0 : Pv 0 H0) (hG : ∀ i H, i ≤ n → Pv i H → Gd H)
    (hs : ∀ i x H H', i < n → Pv i H → Y i H x H' → g x (wipe σ vs) H' fun σ2 H2 => wipe σ2 vs = wipe σ vs ∧ tt σ2 H2 fun b H3 => if b = true then tem σ2 H3 (Pv (i + 1)) else Pv (i + 1) H3) (hd : ∀ H, Pv n H → Qd H) : LoopC g tt tem σ vs Qd J H0 := by
  refine ⟨fun i m H => m = n - i ∧ i ≤ n ∧ Pv i H, ⟨n, by simp, Nat.zero_le _, h0⟩, ?_⟩
  rintro i m H ⟨rfl, hi, p⟩
  have q := hG i H hi p
  by_cases hlt : i < n
  · exact .inr ⟨w.goes i H hlt q, Pv (i + 1), fun H' p' => ⟨n - (i + 1), by omega, rfl, hlt, p'⟩, fun x H' y => hs i x H H' hlt p (w.yields i H x H' hlt q y)⟩
  · have e : i = n := by omega
    subst e
    exact .inl ⟨w.stops H q, hd H p⟩
theorem idxOf_ne {α : Type} [BEq α] [LawfulBEq α] {a e : α} {l : List α} (h : a ≠ e) : (a :: l).idxOf e = l.idxOf e + 1 := by
  rw [List.idxOf_cons]
  have : (a == e) = false := by simpa using h
  rw [this]
  rfl
/-! ### mirrored -/
def placesKv (l : List (List Nat)) (n : Nat) : List (NestedKey × V) := (l.zipIdx n).map fun p => (toK (eR p.1), vI p.2)
theorem places_ks (l : List (List Nat)) (n : Nat) : Ks eR (placesKv l n) l := by
  unfold Ks placesKv
  rw [List.map_map]
  induction l generalizing n with
  | nil => rfl
  | cons a l ih => simp only [List.zipIdx_cons, List.map_cons, ih (n + 1)]; rfl
theorem places_val {l : List (List Nat)} {e : List Nat} : ∀ {n : Nat}, e ∈ l → valV (placesKv l n) (toK (eR e)) = some (vI (n + l.idxOf e)) := by
  induction l with
  | nil => intro n h; cases h
  | cons a l ih =>
    intro n h
    show valV ((toK (eR a), vI n) :: placesKv l (n + 1)) _ = _
    by_cases z : a = e
    · subst z
      rw [valV_pos rfl, List.idxOf_cons_self]; rfl
    · rw [valV_neg fun q => z (kRow.k_inj q), ih ((List.mem_cons.mp h).resolve_left fun q => z q.symm), idxOf_ne z]
      congr 2
      omega
theorem places_snoc (l : List (List Nat)) (e : List Nat) : placesKv (l ++ [e]) 0 = placesKv l 0 ++ [(toK (eR e), vI l.length)] := by
  unfold placesKv
  rw [List.zipIdx_append, List.map_append]
  simp
def mirF (k : Nat) (rows E : List (List Nat)) : List (List Nat) := E.map fun e => (List.range k).map fun c => E.idxOf (followedF (singleF rows c) e)
section
variable {k : Nat} {rows E : List (List Nat)}
theorem AllEff.mem (h : AllEff k rows E) {e : List Nat} : e ∈ E ↔ IsEff k rows e := by
  obtain ⟨L, _, h2, rfl⟩ := h
  rw [(srt_perm eR L).mem_iff, h2]
theorem AllEff.nodup (h : AllEff k rows E) : E.Nodup := by
  obtain ⟨L, h1, _, rfl⟩ := h
  exact (srt_perm eR L).nodup_iff.mpr h1
theorem AllEff.few (h : AllEff k rows E) (ok : OkM k rows) (hn : rows.length ≤ 5) : E.length ≤ 3125 := rows_few h.nodup (fun r hr => isEff_ok ok (h.mem.mp hr)) hn
theorem AllEff.uniq {E' : List (List Nat)} (h : AllEff k rows E) (h' : AllEff k rows E') : E = E' := by
  obtain ⟨L, h1, h2, rfl⟩ := h
  obtain ⟨L', h1', h2', rfl⟩ := h'
  exact srtR_uniq h1 h1' fun x => by rw [h2, h2']
theorem mir_ok (h : AllEff k rows E) (ok : OkM k rows) (hn : rows.length ≤ 5) : OkM k (mirF k rows E) := by
  have hs : List.range rows.length ∈ E := h.mem.mpr .start
  refine ⟨ok.k1, ok.k9, ?_, ?_, fun r hr => ?_, fun r hr s hs => ?_⟩
  · rw [mirF, List.length_map]; exact List.length_pos_of_mem hs
  · rw [mirF, List.length_map]; exact Nat.le_trans (h.few ok hn) (by decide)
  · obtain ⟨e, _, rfl⟩ := List.mem_map.mp hr
    simp
  · obtain ⟨e, he, rfl⟩ := List.mem_map.mp hr
    obtain ⟨c, hc, rfl⟩ := List.mem_map.mp hs
    rw [mirF, List.length_map]
    exact List.idxOf_lt_length_of_mem (h.mem.mpr (.step (h.mem.mp he) (List.mem_range.mp hc)))
end
section
variable {P : Program} {w : World} {K : PySem.W.Frag} {mg : Str → Option Value} {base : Heap} {C : Addr}
def spMirrored (K : PySem.W.Frag) (C : Addr) : Sp := pureSp fun G vs Post => ∃ v k rows, vs = [v] ∧ Mac K C G v k rows ∧ OkM k rows ∧ rows.length ≤ 5 ∧ Post = fun G' u => ∃ E, AllEff k rows E ∧ Mac K C G' u k (mirF k rows E)
theorem sc_mirrored : FnScope ["machine", "effects", "singles", "places", "at", "one", "single"] ["machine"] (defScope s_mirrored) := ⟨rfl, rfl, rfl, by decide +kernel, rfl, by decide +kernel, by decide +kernel⟩
theorem ok_mirrored (T : Txt K mg C) (F : HasD K mg "mirrored" s_mirrored) (MM : MkMach P w K mg base C) (d_all_effects : Def P w K mg base "all_effects" 2 ["machine"] (spAllEff K C)) (d_single_effects : Def P w K mg base "single_effects" 1 ["machine"] (spSingles K C)) (d_followed : Def P w K mg base "followed" 1 ["one", "other"] (spFollowed K)) : Def P w K mg base "mirrored" 6 ["machine"] (spMirrored K C) := by
  refine mkDef F sc_mirrored (fun _ _ _ _ _ _ us hl => match us, hl with | [_], _ => rfl) (fun vs H Q E h => ?_) fun f cdv A outer s H vs Q E hr h => ?_
  · obtain ⟨G, Post, _, ⟨v, k, rows, rfl, _⟩, _⟩ := h
    rfl
  · obtain ⟨G, Post, gh, ⟨v, k, rows, rfl, hm, ok, hn, rfl⟩, q⟩ := h
    refine ⟨_, (pss_cons (ps_asg (pe_tup (pa_cons (pe_def d_all_effects (hr.mono (by decide)) (by rfl) (pa_cons (pv 0) pa_nil)) (pa_cons (pe_def d_single_effects (hr.mono (by decide)) (by rfl) (pa_cons (pv 0) pa_nil)) pa_nil))) (pgT K (n := 2) (pgs_cons (pg_name (i := 1) sc_mirrored.nd rfl (by first | exact Or.inl rfl | exact Or.inr rfl)) (pgs_cons (pg_name (i := 2) sc_mirrored.nd rfl (by first | exact Or.inl rfl | exact Or.inr rfl)) pgs_nil)))) (pss_cons (ps_set (i := 3) sc_mirrored.nd rfl (by first | exact Or.inl rfl | exact Or.inr rfl) (pe_dcN P w K (own := [("at", 4), ("one", 5)]) (hu9 hr) rfl sc_mirrored.nd (piE K (by rfl) T.f_enumerate (pa_cons (pv 1) pa_nil)) (blkOk_by (own := [("at", 4), ("one", 5)]) (by kernel_rfl)) (fun _ _ _ _ _ => (pgT K (n := 2) (pgs_cons (pg_name (i := 4) sc_mirrored.nd rfl (by first | exact Or.inl rfl | exact Or.inr rfl)) (pgs_cons (pg_name (i := 5) sc_mirrored.nd rfl (by first | exact Or.inl rfl | exact Or.inr rfl)) pgs_nil)))) (fun _ _ _ _ _ => (pv 5)) (fun _ _ _ _ _ => (pv 4)))) (pss_one (ps_ret (pe_mach K MM (hr.mono (by decide)) (by rfl) (pa_cons (pf K (pv 0)) (pa_cons (pe_lc (own := [("one", 5)]) rfl sc_mirrored.nd (piL K (pv 1)) (blkOk_by (own := [("one", 5)]) (by kernel_rfl)) (fun _ _ _ _ _ => (pg_name (i := 5) sc_mirrored.nd rfl (by first | exact Or.inl rfl | exact Or.inr rfl))) (fun _ _ _ _ _ => pts_nil) (fun _ _ _ _ _ => (pe_lc (own := [("single", 6)]) rfl sc_mirrored.nd (piL K (pv 2)) (blkOk_by (own := [("single", 6)]) (by kernel_rfl)) (fun _ _ _ _ _ => (pg_name (i := 6) sc_mirrored.nd rfl (by first | exact Or.inl rfl | exact Or.inr rfl))) (fun _ _ _ _ _ => pts_nil) (fun _ _ _ _ _ => (dgetN P w K (hu9 hr) (pv 3) (pe_def d_followed (hr.mono (by decide)) (by rfl) (pa_cons (pv 6) (pa_cons (pv 5) pa_nil))) (fun _ _ => rfl)))))) pa_nil))))))), ?_⟩
    refine ⟨_, rfl, G, _, gh, ⟨v, k, rows, rfl, hm, ok, hn, rfl⟩, fun ev G1 H1 e1 ⟨E, hE, d1⟩ => ?_⟩
    refine ⟨_, rfl, G1, _, e1.gh, ⟨v, k, rows, rfl, mac_up e1.gg hm, ok, rfl⟩, fun sv G2 H2 e2 d2 => ⟨by show 2 ≤ sizeLine; decide, fun t ht => ⟨t, [ev, sv], rfl, SqT.of upd_same, rfl, _, _, rfl, _, _, rfl, rfl, ?_⟩⟩⟩
    have e3 := (e1.trans e2).newM (o := .tup [ev, sv]) ht
    have e23 : Ext [] G1 H1 G2 (upd H2 t (.tup [ev, sv])) := e2.newM ht
    generalize upd H2 t (.tup [ev, sv]) = H3 at e3 e23 ⊢
    obtain ⟨ea, ex, rfl, hs1, hs2⟩ := d1
    have hsE : SqL K H3 ea ex := .of ((e23.gg.trans e23.gh) _ _ hs1)
    have hlE := dpA_len hs2
    rw [List.length_map] at hlE
    have hfew := hE.few ok hn
    refine ⟨_, rfl, ea, ex, rfl, hsE, fun D hD => loopC_it (walk_enum (K := K) (a := ea) (xs := ex)) (fun i H' => ∃ G', Ext [] G2 H3 G' H' ∧ G' D = none ∧ DAt P w K G' H' D (placesKv (E.take i) 0))
      ⟨G2, (Ext.refl e23.gh).newM hD, e23.gh.free hD, dat_nil P w K G2 H3 D⟩ (fun i H' _ ⟨G', e, _⟩ => .of ((e23.gg.trans (e.gg.trans e.gh)) _ _ hs1)) ?_ ?_⟩
    · rintro i x H' H'' hi ⟨G', e, hg, DD⟩ ⟨T1, x1, x2, rfl, hT1, rfl, hx1, hx2⟩
      cases hx1
      have hiE : i < E.length := by rw [← hlE]; exact hi
      obtain ⟨d, hd, hx⟩ := dpA_at' hs2 hx2
      obtain rfl : d = eR E[i] := by simp [hiE] at hd; exact hd.symm
      have e5 := e.newM (o := .tup [.int (i : Nat), x2]) hT1
      have hne : D ≠ T1 := fun z => by
        obtain ⟨o, ho⟩ := dat_some DD
        rw [z, hT1] at ho; cases ho
      have D5 : DAt P w K G' (upd H' T1 (.tup [.int (i : Nat), x2])) D (placesKv (E.take i) 0) := dat_up DD (L2.Same.refl _) (upd_ne hne)
      refine ⟨T1, _, rfl, SqT.of upd_same, rfl, _, _, rfl, _, _, rfl, rfl, rfl, ?_⟩
      generalize upd H' T1 (.tup [.int (i : Nat), x2]) = H5 at e5 D5
      dsimp only [tYes]
      refine iteT ⟨_, rfl, _, rfl, G', _, toK (eR E[i]), e5.gh, hg, D5, kd_row (dp_up (e23.gg.trans e.gg) hx), ?_, fun o D6 => ⟨G', e5.mut (.inl hD) hg, hg, ?_⟩⟩
      · rw [(places_ks _ _).length, List.length_take]
        exact Nat.lt_of_le_of_lt (Nat.min_le_right ..) (Nat.lt_of_le_of_lt hfew (by decide))
      · rw [List.take_succ_eq_append_getElem hiE, places_snoc]
        have hnot : E[i] ∉ E.take i := by
          intro hin
          obtain ⟨j, hj, he⟩ := List.mem_iff_getElem.mp hin
          rw [List.length_take] at hj
          rw [List.getElem_take] at he
          have := (List.getElem_inj hE.nodup).mp he
          omega
        rw [put_new (by rw [places_ks (E.take i) 0, kRow.mem]; exact hnot)] at D6
        rw [List.length_take, Nat.min_eq_left (Nat.le_of_lt hiE)]
        exact D6
    · rintro H' ⟨G', e, hg, DD⟩
      rw [hlE, List.take_length] at DD
      obtain ⟨o, ho⟩ := dat_some DD
      have e6 := e.pub hD hg ho
      have DD6 : DAt P w K (upd G' D o) H' D (placesKv E 0) := dat_up DD (fun b u hb => by rw [upd_ne (ne_of_none hb hg)]; exact hb) rfl
      have hDG : upd G' D o D = some o := upd_same
      generalize upd G' D o = G6 at e6 DD6 hDG
      have e06 := e3.trans e6
      have e26 := e23.trans e6
      have hm6 := mac_up e06.gg hm
      obtain ⟨p, dx, st, rfl, hp, hst⟩ := hm
      obtain ⟨sa, sx, rfl, hv1, hv2⟩ := d2
      have hlS := dpA_len hv2
      simp only [singlesF, List.length_map, List.length_range] at hlS
      refine ⟨_, rfl, p, C, dx, _, _, rfl, (e06.gg.trans e06.gh) _ _ hp, T.cl, T.nC, lk_commands, ?_⟩
      refine ⟨_, rfl, ea, rfl, ⟨_, .of ((e26.gg.trans e26.gh) _ _ hs1)⟩, fun D2 hD2 => lcLD (K := K) ((mirF k rows E).map eL) (by simp [mirF, hlE]) e06.gh (.of (e26.gg _ _ hs1)) hD2 (fun _ => rfl) (by omega) (fun j x r hj hr G7 H7 e7 Q7 q7 => ?_) fun G7 H7 e7 d7 => ?_⟩
      · have hjE : j < E.length := by rw [← hlE]; exact (List.getElem?_eq_some_iff.mp hj).1
        obtain ⟨d, hd, hx⟩ := dpA_at' hs2 hj
        obtain rfl : d = eR E[j] := by simp [hjE] at hd; exact hd.symm
        obtain rfl : r = eL ((List.range k).map fun c => E.idxOf (followedF (singleF rows c) E[j])) := by simp [mirF, hjE] at hr; rw [← hr]
        refine ⟨_, rfl, sa, rfl, ⟨_, .of ((e6.gg.trans (e7.gg.trans e7.gh)) _ _ hv1)⟩, fun D3 hD3 => lcLD (K := K) (((List.range k).map fun c => E.idxOf (followedF (singleF rows c) E[j])).map eI) (by simp [hlS]) e7.gh (.of ((e6.gg.trans e7.gg) _ _ hv1)) hD3 (fun _ => rfl) (by have := ok.k9; omega) (fun c y r hc hr G8 H8 e8 Q8 q8 => ?_) fun G8 H8 e8 d8 => q7 _ _ _ e8 (ld_dp d8)⟩
        have hck : c < k := by rw [← hlS]; exact (List.getElem?_eq_some_iff.mp hc).1
        obtain ⟨d, hd, hy⟩ := dpA_at' hv2 hc
        obtain rfl : d = eR (singleF rows c) := by simp [singlesF, hck] at hd; exact hd.symm
        obtain rfl : r = eI (E.idxOf (followedF (singleF rows c) E[j])) := by simp [hck] at hr; rw [← hr]
        have hEj : IsEff k rows E[j] := hE.mem.mp (List.getElem_mem hjE)
        have eok := isEff_ok ok hEj
        refine ⟨_, rfl, _, rfl, _, rfl, G8, _, e8.gh, ⟨y, x, singleF rows c, E[j], rfl, dp_up (e6.gg.trans (e7.gg.trans e8.gg)) hy, dp_up (e26.gg.trans (e7.gg.trans e8.gg)) hx, fun s hs => by rw [eok.1]; exact singleF_lt ok hck s hs, by rw [singleF_len]; omega, rfl⟩, fun u G9 H9 e9 d9 => ?_⟩
        have e69 := e7.trans (e8.trans e9)
        have hD9 : H9 D = some o := e69.gh _ _ (e69.gg _ _ hDG)
        refine ⟨D, G9, placesKv E 0, toK (eR (followedF (singleF rows c) E[j])), _, rfl, e9.gh, dat_up DD6 e69.gg (by rw [hD9, ho]), kd_row d9, places_val (hE.mem.mpr (.step hEj hck)), ?_⟩
        rw [Nat.zero_add]
        exact q8 _ _ _ e9 (.int _)
      · refine rd_make (rows := mirF k rows E) e7.gh (ld_dp d7) (mir_ok hE ok hn) fun x G8 H8 e8 m8 => ?_
        exact q _ _ _ (e06.trans (e7.trans e8)) ⟨E, hE, m8⟩
end
end K78

/-! text F5 -/
set_option Elab.async false
set_option linter.all false
set_option maxRecDepth 100000
set_option maxHeartbeats 4000000
namespace K78
open PySem PySem.Spec PyProof.Rows L2

/-! ### sets of whole numbers, plain -/
def addL (L : List Nat) (x : Nat) : List Nat := if x ∈ L then L else x :: L
theorem mem_addL {L : List Nat} {x y : Nat} : y ∈ addL L x ↔ y = x ∨ y ∈ L := by
  unfold addL
  split
  · next h => exact ⟨.inr, fun q => q.elim (fun e => by rw [e]; exact h) id⟩
  · exact List.mem_cons
theorem nodup_addL {L : List Nat} {x : Nat} (h : L.Nodup) : (addL L x).Nodup := by
  unfold addL
  split
  · exact h
  · next z => exact List.nodup_cons.mpr ⟨z, h⟩
/-- the set at D holds L -/
def SetL (w : World) (D : Addr) (L : List Nat) (H : Hp) : Prop := ∃ S n, H D = some (SetO w D S n) ∧ (∀ j : Int, S j = true ↔ ∃ x ∈ L, j = (x : Int)) ∧ n = L.length
theorem setL_nil {w : World} {D : Addr} {H : Hp} : SetL w D [] (upd H D (SetO w D (fun _ => false) 0)) := ⟨_, 0, upd_same, fun j => by simp, rfl⟩
theorem setL_add {w : World} {D : Addr} {L : List Nat} {H : Hp} {x : Nat} (h : SetL w D L H) (hL : L.length < 1000) :
    ∃ (S : Int → Bool) (n : Nat), H D = some (SetO w D S n) ∧ n + 1 < scanBound ∧ SetL w D (addL L x) (upd H D (SetO w D (fun j => S j || decide (j = (x : Int))) (if S x = true then n else n + 1))) := by
  obtain ⟨S, n, h1, h2, rfl⟩ := h
  refine ⟨S, L.length, h1, Nat.lt_of_le_of_lt (show L.length + 1 ≤ 1000 by omega) (by decide), ⟨_, _, upd_same, fun j => ?_, ?_⟩⟩
  · rw [Bool.or_eq_true, h2, decide_eq_true_eq]
    constructor
    · rintro (⟨y, hy, e⟩ | e)
      · exact ⟨y, mem_addL.mpr (.inr hy), e⟩
      · exact ⟨x, mem_addL.mpr (.inl rfl), e⟩
    · rintro ⟨y, hy, e⟩
      rcases mem_addL.mp hy with rfl | hy
      · exact .inr e
      · exact .inl ⟨y, hy, e⟩
  · have hx : S (x : Int) = true ↔ x ∈ L := by
      rw [h2]
      exact ⟨fun ⟨y, hy, e⟩ => by rw [show x = y by omega]; exact hy, fun h => ⟨x, h, rfl⟩⟩
    unfold addL
    by_cases z : x ∈ L
    · rw [if_pos (hx.mpr z), if_pos z]
    · rw [if_neg (fun q => z (hx.mp q)), if_neg z]; rfl
/-- sorted, none twice -/
abbrev SrtN (l : List Nat) : Prop := l.Pairwise (· < ·)
theorem srtN_uniq {l m : List Nat} (hl : SrtN l) (hm : SrtN m) (h : ∀ x, x ∈ l ↔ x ∈ m) : l = m := by
  have nd : ∀ {l : List Nat}, SrtN l → l.Nodup := fun h => h.imp fun {a b} h e => by omega
  exact sorted_uniq (le := (· < ·)) (fun a b h1 h2 => by omega) hl hm (perm_of_nodup (nd hl) (nd hm) h)
theorem srtN_few {l : List Nat} {n : Nat} (hl : SrtN l) (h : ∀ x ∈ l, x < n) : l.length ≤ n := by
  have nd : l.Nodup := hl.imp fun {a b} h e => by omega
  have := nodup_le nd (m := List.range n) fun x hx => List.mem_range.mpr (h x hx)
  simpa using this
/-- sorted(a set) -/
theorem rd_sortedL {w : World} {D : Addr} {L : List Nat} {H : Hp} {Q : VK} (h : SetL w D L H) (hL : L.length < 64) (k : ∀ S' p, SrtN S' → (∀ x, x ∈ S' ↔ x ∈ L) → H p = none → Q (.ref p) (upd H p (.lst (S'.map vI)))) : rSortedSet w [.ref D] H Q := by
  obtain ⟨S, n, h1, h2, rfl⟩ := h
  refine ⟨D, S, L.length, rfl, h1, hL, fun ns p hs hm _ hp => ?_⟩
  have hall : ∀ i ∈ ns, ∃ x ∈ L, i = (x : Int) := fun i hi => (h2 i).mp ((hm i).mp hi)
  have e : (ns.map Int.toNat).map vI = ns.map V.int := by
    rw [List.map_map]
    refine List.map_congr_left fun i hi => ?_
    obtain ⟨x, _, rfl⟩ := hall i hi
    rfl
  rw [← e]
  refine k _ p ?_ (fun x => ?_) hp
  · refine List.pairwise_map.mpr ((List.Pairwise.and_mem.mp hs).imp fun {a b} h => ?_)
    obtain ⟨ha, hb, hlt⟩ := h
    obtain ⟨x, _, rfl⟩ := hall a ha
    obtain ⟨y, _, rfl⟩ := hall b hb
    simp only [Int.toNat_natCast]
    omega
  · constructor
    · intro hx
      obtain ⟨i, hi, rfl⟩ := List.mem_map.mp hx
      obtain ⟨y, hy, rfl⟩ := hall i hi
      simpa using hy
    · intro hx
      exact List.mem_map.mpr ⟨(x : Int), (hm _).mpr ((h2 _).mpr ⟨x, hx, rfl⟩), by simp⟩
/-! ### onward -/
/-- what one command leads to -/
def Onto (rows : List (List Nat)) (S : List Nat) (t : Nat) : Prop := ∃ s ∈ S, t ∈ rows.getD s []
/-- a machine that is small -/
structure OkS (k : Nat) (rows : List (List Nat)) : Prop where
  m : OkM k rows
  n : rows.length ≤ 40
section
variable {P : Program} {w : World} {K : PySem.W.Frag} {mg : Str → Option Value} {base : Heap} {C : Addr}
def spOnward (K : PySem.W.Frag) (C : Addr) : Sp := pureSp fun G vs Post => ∃ v u k rows S, vs = [v, u] ∧ Mac K C G v k rows ∧ OkS k rows ∧ Dp K G u (eR S) ∧ (∀ s ∈ S, s < rows.length) ∧ S.length ≤ 1000 ∧
  Post = fun G' u => ∃ S', SrtN S' ∧ (∀ t, t ∈ S' ↔ Onto rows S t) ∧ Dp K G' u (eR S')
theorem sc_onward : FnScope ["machine", "states", "state", "command"] ["machine", "states"] (defScope s_onward) := ⟨rfl, rfl, rfl, by decide +kernel, rfl, by decide +kernel, by decide +kernel⟩
theorem ok_onward (T : Txt K mg C) (F : HasD K mg "onward" s_onward) : Def P w K mg base "onward" 1 ["machine", "states"] (spOnward K C) := by
  refine mkDef F sc_onward (fun _ _ _ _ _ _ us hl => match us, hl with | [_, _], _ => rfl) (fun vs H Q E h => ?_) fun f cdv A outer s H vs Q E hr h => ?_
  · obtain ⟨G, Post, _, ⟨v, u, k, rows, S, rfl, _⟩, _⟩ := h
    rfl
  · obtain ⟨G, Post, gh, ⟨v, u, k, rows, S, rfl, hm, ok, hu, hS, hSl, rfl⟩, q⟩ := h
    refine ⟨_, (pss_one (ps_ret (pe_callTy (tupOf K) (by rfl) T.f_tuple (by decide +kernel) (pa_cons (pe_callB (cr_sortedSet rfl) (by rfl) T.f_sorted (by decide +kernel) (pa_cons (pe_sc2 (vs1 := [3]) (own := [("state", 2), ("command", 3)]) rfl sc_onward.nd (piT K (pv 1)) (blkOk_by (own := [("state", 2), ("command", 3)]) (by kernel_rfl)) (by decide) (fun _ _ _ _ _ => (pg_name (i := 2) sc_onward.nd rfl (by first | exact Or.inl rfl | exact Or.inr rfl))) (fun _ _ _ _ _ => (pi_range1 (by rfl) T.f_range (pa_cons (pf K (pv 0)) pa_nil))) (fun _ _ _ _ _ => (pg_name (i := 3) sc_onward.nd rfl (by first | exact Or.inl rfl | exact Or.inr rfl))) (fun _ _ _ _ _ => (pe_ix (ixT K) (pe_ix (ixT K) (pf K (pv 0)) (pv 2) (fun _ _ => rfl)) (pv 3) (fun _ _ => rfl)))) pa_nil)) pa_nil)))), ?_⟩
    obtain ⟨p, dx, st, rfl, hp, hst⟩ := hm
    obtain ⟨a, rfl, hs⟩ := dp_row hu
    have hrow : ∀ s, s < rows.length → rows.getD s [] = rows[s]! := fun s h => by simp [List.getD, h]
    refine ⟨_, rfl, a, rfl, ⟨_, same_t gh hs⟩, fun D hD => loopC_it (walk_tup (K := K) (a := a) (xs := S.map vI)) (fun i H' => ∃ G' L, Ext [] G H G' H' ∧ G' D = none ∧ SetL w D L H' ∧ L.Nodup ∧ ∀ t, t ∈ L ↔ Onto rows (S.take i) t)
      ⟨G, [], (Ext.refl gh).newM hD, gh.free hD, setL_nil, by simp, fun t => by simp [Onto]⟩ (fun i H' _ ⟨G', _, e, _⟩ => same_t (e.gg.trans e.gh) hs) ?_ ?_⟩
    · rintro i x H' H'' hi ⟨G', L, e, hg, hL, nd, hm⟩ ⟨rfl, hx⟩
      rw [List.length_map] at hi
      obtain rfl : x = vI S[i] := by simp [hi] at hx; exact hx.symm
      have hsl : S[i] < rows.length := hS _ (List.getElem_mem hi)
      have hrl := ok.m.rl _ (List.getElem_mem hsl)
      refine ⟨rfl, ?_⟩
      dsimp only [tYes]
      refine iteT ⟨_, rfl, p, C, dx, _, _, rfl, (e.gg.trans e.gh) _ _ hp, T.cl, T.nC, lk_commands, (k : Int), rfl, by omega, by have := ok.m.k9; omega, ?_⟩
      rw [Int.toNat_natCast]
      refine loopC_it walk_range (fun c H' => ∃ G' L, Ext [] G H G' H' ∧ G' D = none ∧ SetL w D L H' ∧ L.Nodup ∧ ∀ t, t ∈ L ↔ (Onto rows (S.take i) t ∨ ∃ d, d < c ∧ rows[S[i]][d]? = some t))
        ⟨G', L, e, hg, hL, nd, fun t => by simp [hm t]⟩ (fun _ _ _ _ => trivial) ?_ ?_
      · rintro c x H2 H3 hc ⟨G2, L2, e2, hg2, hL2, nd2, hm2⟩ ⟨rfl, rfl⟩
        have hz : (fun i : Nat => V.int (0 + (i : Int))) c = vI c := by simp
        rw [hz]
        have hlt2 : ∀ x ∈ L2, x < rows.length := fun x hx => by
          rcases (hm2 x).mp hx with ⟨s, hs, ht⟩ | ⟨d, _, hd⟩
          · have hsl := hS s (List.mem_of_mem_take hs)
            simp only [List.getD, List.getElem?_eq_getElem hsl, Option.getD_some] at ht
            exact ok.m.rb _ (List.getElem_mem hsl) x ht
          · exact ok.m.rb _ (List.getElem_mem hsl) x (List.mem_of_getElem? hd)
        have hfew : L2.length ≤ 40 := by
          have := nodup_le nd2 (m := List.range rows.length) fun x hx => List.mem_range.mpr (hlt2 x hx)
          have := ok.n
          simp at *
          omega
        refine ⟨rfl, ?_⟩
        dsimp only [tYes]
        refine iteT ⟨_, rfl, p, C, dx, _, _, rfl, (e2.gg.trans e2.gh) _ _ hp, T.cl, T.nT, lk_steps, _, rfl, ?_⟩
        refine rd_row (dp_up e2.gg hst) e2.gh hsl fun u hu => ⟨_, rfl, ?_⟩
        refine rd_nat hu e2.gh (c := c) (by omega) ?_
        obtain ⟨Sf, nf, z1, z2, h3⟩ := setL_add (x := rows[S[i]][c]'(by omega)) hL2 (by omega)
        refine ⟨_, Sf, nf, rfl, z1, z2, G2, _, e2.mut (.inl hD) hg2, hg2, h3, nodup_addL nd2, fun t => ?_⟩
        rw [mem_addL, hm2]
        constructor
        · rintro (rfl | h | ⟨d, hd, h⟩)
          · exact .inr ⟨c, Nat.lt_succ_self _, by simp [show c < rows[S[i]].length by omega]⟩
          · exact .inl h
          · exact .inr ⟨d, Nat.lt_succ_of_lt hd, h⟩
        · rintro (h | ⟨d, hd, h⟩)
          · exact .inr (.inl h)
          · by_cases z : d = c
            · subst z
              rw [List.getElem?_eq_getElem (by omega)] at h
              exact .inl (Option.some.inj h).symm
            · exact .inr (.inr ⟨d, by omega, h⟩)
      · rintro H2 ⟨G2, L2, e2, hg2, hL2, nd2, hm2⟩
        refine ⟨G2, L2, e2, hg2, hL2, nd2, fun t => ?_⟩
        rw [hm2, List.take_succ_eq_append_getElem hi]
        constructor
        · rintro (⟨s, hs, ht⟩ | ⟨d, hd, h⟩)
          · exact ⟨s, List.mem_append_left _ hs, ht⟩
          · refine ⟨S[i], List.mem_append_right _ (by simp), ?_⟩
            rw [hrow _ hsl]
            simp only [getElem!_pos rows S[i] hsl]
            exact List.mem_of_getElem? h
        · rintro ⟨s, hs, ht⟩
          rcases List.mem_append.mp hs with hs | hs
          · exact .inl ⟨s, hs, ht⟩
          · rw [List.mem_singleton.mp hs, hrow _ hsl] at ht
            simp only [getElem!_pos rows S[i] hsl] at ht
            obtain ⟨d, hd, z⟩ := List.mem_iff_getElem.mp ht
            exact .inr ⟨d, by omega, by rw [List.getElem?_eq_getElem hd, z]⟩
    · rintro H' ⟨G', L, e, hg, hL, nd, hm⟩
      rw [List.length_map, List.take_length] at hm
      have hlt : ∀ x ∈ L, x < rows.length := fun x hx => by
        obtain ⟨s, hs, ht⟩ := (hm x).mp hx
        have hsl := hS s hs
        simp only [List.getD, List.getElem?_eq_getElem hsl, Option.getD_some] at ht
        exact ok.m.rb _ (List.getElem_mem hsl) x ht
      have hfew : L.length ≤ 40 := by
        have := nodup_le nd (m := List.range rows.length) fun x hx => List.mem_range.mpr (hlt x hx)
        have := ok.n
        simp at *
        omega
      dsimp only [tNil]
      refine rd_sortedL hL (by omega) fun S' p2 hs1 hs2 hp2 => ?_
      have e2 := e.new (o := .lst (S'.map vI)) hp2
      refine rd_tupOf (ds := S'.map eI) (G := upd G' p2 (.lst (S'.map vI))) ⟨p2, _, rfl, upd_same, dpA_ints S'⟩ e2.gh fun p3 G3 H3 e3 d3 => ?_
      exact q _ _ _ (e2.trans e3) ⟨S', hs1, fun t => (hs2 t).trans (hm t), d3⟩
end
end K78

/-! text D2 -/
set_option Elab.async false
set_option linter.all false
set_option maxRecDepth 100000
set_option maxHeartbeats 2000000
namespace K78
open PySem PySem.Spec PyProof.Rows L2

/-! ### data compared -/
mutual
theorem lay_ok : ∀ d : PyData, okK d = true → d.canLay0 = true
  | .int _, _ => rfl
  | .tuple ds, h => by rw [PyData.canLay0]; exact lays_ok ds (by simpa [okK] using h)
  | .none, h => by simp [okK] at h
  | .bool _, h => by simp [okK] at h
  | .str _, h => by simp [okK] at h
  | .list _, h => by simp [okK] at h
  | .dict _, h => by simp [okK] at h
theorem lays_ok : ∀ ds : List PyData, okKs ds = true → PyData.canLayAll0 ds = true
  | [], _ => rfl
  | d :: ds, h => by
    simp only [okKs, Bool.and_eq_true] at h
    rw [PyData.canLayAll0, lay_ok d h.1, lays_ok ds h.2]; rfl
end
mutual
theorem eqv_ok : ∀ d e : PyData, okK d = true → okK e = true → (PyData.eqv d e = true ↔ d = e)
  | .int i, .int j, _, _ => by simp [PyData.eqv]
  | .tuple ds, .tuple es, h1, h2 => by
    rw [PyData.eqv, eqvs_ok ds es (by simpa [okK] using h1) (by simpa [okK] using h2)]
    exact ⟨fun h => by rw [h], fun h => by injection h⟩
  | .int _, .tuple _, _, _ => by simp [PyData.eqv]
  | .tuple _, .int _, _, _ => by simp [PyData.eqv]
  | .int _, .none, _, h => by simp [okK] at h
  | .int _, .bool _, _, h => by simp [okK] at h
  | .int _, .str _, _, h => by simp [okK] at h
  | .int _, .list _, _, h => by simp [okK] at h
  | .int _, .dict _, _, h => by simp [okK] at h
  | .tuple _, .none, _, h => by simp [okK] at h
  | .tuple _, .bool _, _, h => by simp [okK] at h
  | .tuple _, .str _, _, h => by simp [okK] at h
  | .tuple _, .list _, _, h => by simp [okK] at h
  | .tuple _, .dict _, _, h => by simp [okK] at h
  | .none, _, h, _ => by simp [okK] at h
  | .bool _, _, h, _ => by simp [okK] at h
  | .str _, _, h, _ => by simp [okK] at h
  | .list _, _, h, _ => by simp [okK] at h
  | .dict _, _, h, _ => by simp [okK] at h
theorem eqvs_ok : ∀ ds es : List PyData, okKs ds = true → okKs es = true → (PyData.eqvAll ds es = true ↔ ds = es)
  | [], [], _, _ => by simp [PyData.eqvAll]
  | [], _ :: _, _, _ => by simp [PyData.eqvAll]
  | _ :: _, [], _, _ => by simp [PyData.eqvAll]
  | d :: ds, e :: es, h1, h2 => by
    simp only [okKs, Bool.and_eq_true] at h1 h2
    rw [PySem.W.eqv_all_cons, Bool.and_eq_true, eqv_ok d e h1.1 h2.1, eqvs_ok ds es h1.2 h2.2, List.cons.injEq]
end
theorem dAll_le {n : Nat} : ∀ {ds : List PyData}, (∀ d ∈ ds, d.depth ≤ n) → PyData.depthAll ds ≤ n
  | [], _ => by simp [PyData.depthAll]
  | d :: ds, h => by
    rw [PyData.depthAll]
    exact Nat.max_le.mpr ⟨h d List.mem_cons_self, dAll_le fun q hq => h q (List.mem_cons_of_mem _ hq)⟩
theorem d_row (r : List Nat) : (eR r).depth ≤ 1 := by
  rw [PyData.depth]
  exact Nat.succ_le_succ (dAll_le fun d hd => by
    obtain ⟨x, _, rfl⟩ := List.mem_map.mp hd
    simp [PyData.depth])
theorem d_pair (p : Nat × Nat) : (eP p).depth ≤ 1 := by simp [PyData.depth, PyData.depthAll]
theorem d_pairs (l : List (Nat × Nat)) : (ePs l).depth ≤ 2 := by
  rw [PyData.depth]
  exact Nat.succ_le_succ (dAll_le fun d hd => by
    obtain ⟨x, _, rfl⟩ := List.mem_map.mp hd
    exact d_pair x)
theorem sh_of {d : PyData} (h : okK d = true) (hd : d.depth ≤ 8) : SeqAt.shaped d = true := by
  unfold SeqAt.shaped
  rw [lay_ok d h, decide_eq_true (by omega)]; rfl
theorem sh_row (r : List Nat) : SeqAt.shaped (eR r) = true := sh_of (ok_row r) (Nat.le_trans (d_row r) (by decide))
theorem sh_pairs (l : List (Nat × Nat)) : SeqAt.shaped (ePs l) = true := sh_of (ok_pairs l) (Nat.le_trans (d_pairs l) (by decide))
theorem eqv_row {a b : List Nat} : PyData.eqv (eR a) (eR b) = decide (a = b) := by
  have h := eqv_ok (eR a) (eR b) (ok_row a) (ok_row b)
  by_cases z : a = b
  · rw [decide_eq_true z]; exact h.mpr (by rw [z])
  · rw [decide_eq_false z]
    cases q : PyData.eqv (eR a) (eR b)
    · rfl
    · exact absurd (eR_inj (h.mp q)) z
/-- lists of rows -/
theorem sh_rows (l : List (List Nat)) : SeqAt.shaped (eLR l) = true := by
  unfold SeqAt.shaped
  have h1 : (eLR l).canLay0 = true := by
    rw [PyData.canLay0]
    induction l with
    | nil => rfl
    | cons r l ih => rw [List.map_cons, PyData.canLayAll0, ih, lay_ok _ (ok_row r)]; rfl
  have h2 : (eLR l).depth ≤ 2 := by
    rw [PyData.depth]
    exact Nat.succ_le_succ (dAll_le fun d hd => by
      obtain ⟨x, _, rfl⟩ := List.mem_map.mp hd
      exact d_row x)
  rw [h1, decide_eq_true (by omega)]; rfl
theorem any_row (l : List (List Nat)) (r : List Nat) : ((l.map eR).any fun z => PyData.eqv z (eR r)) = decide (r ∈ l) := by
  rw [List.any_map]
  induction l with
  | nil => simp
  | cons a l ih =>
    rw [List.any_cons, ih]
    show (PyData.eqv (eR a) (eR r) || _) = _
    rw [eqv_row]
    by_cases z : a = r
    · simp [z]
    · simp [z]
      exact fun q => absurd q.symm z
end K78

/-! text F6 -/
set_option Elab.async false
set_option linter.all false
set_option maxRecDepth 100000
set_option maxHeartbeats 4000000
namespace K78
open PySem PySem.Spec PyProof.Rows L2

/-! ### all_behind, plain -/
def onwF (rows : List (List Nat)) (S : List Nat) : List Nat := (List.range rows.length).filter fun t => S.any fun s => (rows.getD s []).contains t
def behF (rows : List (List Nat)) : Nat → List Nat
  | 0 => List.range rows.length
  | i + 1 => onwF rows (behF rows i)
section
variable {k : Nat} {rows : List (List Nat)}
theorem mem_onwF (ok : OkM k rows) {S : List Nat} {t : Nat} : t ∈ onwF rows S ↔ Onto rows S t := by
  unfold onwF Onto
  rw [List.mem_filter, List.any_eq_true]
  constructor
  · rintro ⟨_, s, hs, h⟩
    exact ⟨s, hs, by simpa using h⟩
  · rintro ⟨s, hs, h⟩
    refine ⟨?_, s, hs, by simpa using h⟩
    by_cases hlt : s < rows.length
    · simp only [List.getD, List.getElem?_eq_getElem hlt, Option.getD_some] at h
      exact List.mem_range.mpr (ok.rb _ (List.getElem_mem hlt) t h)
    · have e : rows[s]? = none := List.getElem?_eq_none (by omega)
      simp [List.getD, e] at h
theorem range_srt (n : Nat) : SrtN (List.range n) := List.pairwise_lt_range
theorem onwF_srt (S : List Nat) : SrtN (onwF rows S) := (range_srt _).filter _
theorem onwF_lt {S : List Nat} : ∀ t ∈ onwF rows S, t < rows.length := fun t h => List.mem_range.mp (List.mem_filter.mp h).1
theorem behF_srt (i : Nat) : SrtN (behF rows i) := by
  cases i with
  | zero => exact range_srt _
  | succ i => exact onwF_srt _
theorem behF_lt (i : Nat) : ∀ t ∈ behF rows i, t < rows.length := by
  cases i with
  | zero => exact fun t h => List.mem_range.mp h
  | succ i => exact onwF_lt
theorem onwF_mono {S S' : List Nat} (h : ∀ s ∈ S, s ∈ S') : ∀ t ∈ onwF rows S, t ∈ onwF rows S' := by
  intro t ht
  unfold onwF at ht ⊢
  rw [List.mem_filter, List.any_eq_true] at ht ⊢
  obtain ⟨h1, s, hs, h2⟩ := ht
  exact ⟨h1, s, h s hs, h2⟩
theorem behF_dec : ∀ i, ∀ t ∈ behF rows (i + 1), t ∈ behF rows i
  | 0 => fun t h => List.mem_range.mpr (onwF_lt t h)
  | i + 1 => onwF_mono (behF_dec i)
theorem behF_len {i : Nat} (h : behF rows (i + 1) ≠ behF rows i) : (behF rows (i + 1)).length < (behF rows i).length := by
  have nd : ∀ j, (behF rows j).Nodup := fun j => (behF_srt j).imp fun {a b} h e => by omega
  have h1 := nodup_le (nd (i + 1)) (behF_dec i)
  refine Nat.lt_of_le_of_ne h1 fun e => h (srtN_uniq (behF_srt _) (behF_srt _) fun x => ⟨behF_dec i x, fun hx => ?_⟩)
  -- equal lengths: the same members
  have : ∀ {l m : List Nat}, l.Nodup → (∀ x ∈ l, x ∈ m) → m.length ≤ l.length → m.Nodup → ∀ x ∈ m, x ∈ l := by
    intro l m hl hs hlen hm x hx
    apply Decidable.byContradiction
    intro hnx
    have hx' := List.nodup_cons.mpr ⟨hnx, hl⟩
    have := nodup_le hx' (m := m) fun y hy => by
      rcases List.mem_cons.mp hy with rfl | hy
      · exact hx
      · exact hs y hy
    simp at this
    omega
  exact this (nd _) (behF_dec i) (by omega) (nd _) x hx
end
/-- x is where the layers behind settle -/
def Settled {α : Type} (f : Nat → α) (x : Nat) : Prop := (∀ i < x, f (i + 1) ≠ f i) ∧ f (x + 1) = f x
section
variable {P : Program} {w : World} {K : PySem.W.Frag} {mg : Str → Option Value} {base : Heap} {C : Addr}
def layersTo (f : Nat → List Nat) (x : Nat) : List (List Nat) := (List.range (x + 1)).map f
theorem behF_few {k : Nat} {rows : List (List Nat)} (ok : OkS k rows) {x : Nat} (h : ∀ i < x, behF rows (i + 1) ≠ behF rows i) : x + (behF rows x).length ≤ 40 := by
  induction x with
  | zero => simp [behF]; exact ok.n
  | succ x ih =>
    have h1 := ih fun i hi => h i (by omega)
    have h2 := behF_len (h x (by omega))
    omega
def spBehind (K : PySem.W.Frag) (C : Addr) : Sp := pureSp fun G vs Post => ∃ v k rows, vs = [v] ∧ Mac K C G v k rows ∧ OkS k rows ∧ Post = fun G' u => ∃ x, Settled (behF rows) x ∧ Ld K G' u ((layersTo (behF rows) x).map eR)
theorem layersTo_snoc (f : Nat → List Nat) (x : Nat) : layersTo f (x + 1) = layersTo f x ++ [f (x + 1)] := by unfold layersTo; rw [List.range_succ, List.map_append]; rfl
theorem layersTo_init (f : Nat → List Nat) (x : Nat) : ∃ l, layersTo f x = l ++ [f x] := by
  cases x with
  | zero => exact ⟨[], rfl⟩
  | succ x => exact ⟨_, layersTo_snoc f x⟩
theorem sc_all_behind : FnScope ["machine", "found", "later"] ["machine"] (defScope s_all_behind) := ⟨rfl, rfl, rfl, by decide +kernel, rfl, by decide +kernel, by decide +kernel⟩
theorem ok_all_behind (T : Txt K mg C) (F : HasD K mg "all_behind" s_all_behind) (d_onward : Def P w K mg base "onward" 1 ["machine", "states"] (spOnward K C)) : Def P w K mg base "all_behind" 2 ["machine"] (spBehind K C) := by
  refine mkDef F sc_all_behind (fun _ _ _ _ _ _ us hl => match us, hl with | [_], _ => rfl) (fun vs H Q E h => ?_) fun f cdv A outer s H vs Q E hr h => ?_
  · obtain ⟨G, Post, _, ⟨v, k, rows, rfl, _⟩, _⟩ := h
    rfl
  · obtain ⟨G, Post, gh, ⟨v, k, rows, rfl, hm, ok, rfl⟩, q⟩ := h
    refine ⟨_, (pss_cons (ps_set (i := 1) sc_all_behind.nd rfl (by first | exact Or.inl rfl | exact Or.inr rfl) (pe_lst (pa_cons (pe_tupRg rfl (by rfl) T.f_tuple (prg_1 (by rfl) T.f_range (pf K (pv 0)))) pa_nil))) (pss_one (ps_while PassesOwn.never (pt_val pe_bl) (pss_cons (ps_set (i := 2) sc_all_behind.nd rfl (by first | exact Or.inl rfl | exact Or.inr rfl) (pe_def d_onward (hr.mono (by decide)) (by rfl) (pa_cons (pv 0) (pa_cons (pe_ix (ixL K) (pv 1) (pe_un un_neg pe_int) (fun _ _ => rfl)) pa_nil)))) (pss_cons (ps_if (pt_cmpR (eqD K (hu64 hr)) (pv 2) (pe_ix (ixL K) (pv 1) (pe_un un_neg pe_int) (fun _ _ => rfl)) (nomark _)) (pss_one (ps_ret (pv 1))) pss_nil) (pss_one (ps_expr (pe_bm PySem.F.plainAttrs_list PySem.F.slot_list_append PySem.F.type_list_append mt_append (pv 1) (pa_cons (pv 2) pa_nil))))))))), ?_⟩
    have hm0 := hm
    obtain ⟨p, dx, st, rfl, hp, hst⟩ := hm
    have hn9 := ok.m.n9
    refine ⟨_, rfl, p, C, dx, _, _, rfl, gh _ _ hp, T.cl, T.nS, lk_states, (rows.length : Int), rfl, RgOk.of_le (by omega) (by omega) (by omega) (by omega), fun q1 hq1 => ?_⟩
    rw [rg_nat]
    have e1 := (Ext.refl (X := []) gh).new (o := .tup ((List.range rows.length).map vI)) hq1
    have d1 : Dp K _ (.ref q1) (eR (List.range rows.length)) := tup_new gh hq1 (dpA_ints (List.range rows.length))
    generalize upd G q1 (.tup ((List.range rows.length).map vI)) = G1 at e1 d1
    generalize upd H q1 (.tup ((List.range rows.length).map vI)) = H1 at e1 ⊢
    refine ⟨by show 1 ≤ sizeLine; decide, fun l hl => ?_⟩
    refine ⟨fun m σ H' => ∃ G' x xs v2, Ext [] G H G' H' ∧ G' l = none ∧ H' l = some (.lst xs) ∧ DpAll K G' xs ((layersTo (behF rows) x).map eR) ∧ (∀ i < x, behF rows (i + 1) ≠ behF rows i) ∧ m + x = 41 ∧ σ = [some (.ref p), some (.ref l), v2],
      ⟨41, G1, 0, [.ref q1], none, e1.newM hl, e1.gh.free hl, upd_same, .cons d1 .nil, fun i hi => by omega, rfl, rfl⟩, ?_⟩
    have hl0 : H l = none := e1.base hl
    rintro m σ H' ⟨G', x, xs, v2, e, hg, hx1, hx2, hx3, hmx, rfl⟩
    refine ⟨true, rfl, iteT ⟨fun σ' H' => _, fun _ _ h => h, ?_⟩⟩
    have hfew := behF_few ok hx3
    obtain ⟨il, hil⟩ := layersTo_init (behF rows) x
    have hx2' := hx2
    rw [hil, List.map_append] at hx2'
    obtain ⟨ys, y, rfl, hy1, hy2⟩ := dpA_snoc hx2'
    refine ⟨_, rfl, _, rfl, _, rfl, l, ys ++ [y], -1, y, rfl, rfl, .of hx1, atI_last ys y, G', _, e.gh, ⟨.ref p, y, k, rows, behF rows x, rfl, mac_up e.gg hm0, ok, hy2, behF_lt x, by omega, rfl⟩, fun u G2 H2 e2 ⟨S', hS1, hS2, d2⟩ => ?_⟩
    obtain rfl : S' = behF rows (x + 1) := srtN_uniq hS1 (behF_srt _) fun t => (hS2 t).trans (mem_onwF ok.m).symm
    obtain ⟨f1, f2⟩ := e2.keepM hx1 hg (by simp)
    refine ⟨_, rfl, _, rfl, _, rfl, l, ys ++ [y], -1, y, rfl, rfl, .of f1, atI_last ys y, eR (behF rows (x + 1)), eR (behF rows x), dp_up e2.gh d2, dp_up (e2.gg.trans e2.gh) hy2, sh_row _, sh_row _, _, rfl, ?_⟩
    rw [eqv_row]
    by_cases z : behF rows (x + 1) = behF rows x
    · refine iteTb (decide_eq_true z) ⟨_, rfl, ?_⟩
      exact q _ _ _ ((e.trans e2).pub hl0 f2 f1) ⟨x, ⟨hx3, z⟩, l, _, rfl, upd_same, dpA_up (e2.gg.trans fun b o hb => by rw [upd_ne (ne_of_none hb f2)]; exact hb) hx2⟩
    · refine iteFb (decide_eq_false z) ⟨_, rfl, .inl ⟨rfl, _, .of f1⟩, _, rfl, l, _, u, rfl, rfl, f1, ?_, m - 1, by omega, G2, x + 1, _, _, (e.trans e2).mut (.inl hl0) f2, f2, upd_same, ?_, fun i hi => ?_, by omega, rfl⟩
      · have := dpA_len hx2
        simp only [List.length_map, layersTo, List.length_range] at this
        rw [this]
        exact Nat.lt_of_le_of_lt (show x + 1 ≤ 50 by omega) (by decide)
      · rw [layersTo_snoc, List.map_append]
        exact dpA_app (dpA_up e2.gg hx2) (.cons d2 .nil)
      · by_cases y : i = x
        · rw [y]; exact z
        · exact hx3 i (by omega)
end
end K78

/-! text F7 -/
set_option Elab.async false
set_option linter.all false
set_option maxRecDepth 100000
set_option maxHeartbeats 4000000
namespace K78
open PySem PySem.Spec PyProof.Rows L2

/-! ### joined, plain -/
def keyOfS (cls : List Nat) (row : List Nat) : List Nat := row.map (cls.getD · 0)
def keysF (rows : List (List Nat)) (cls : List Nat) : List (List Nat) := rows.map (keyOfS cls)
def coarsF (rows : List (List Nat)) (cls : List Nat) : List Nat := (keysF rows cls).map fun key => (keysF rows cls).idxOf key
def clsF (rows : List (List Nat)) : Nat → List Nat
  | 0 => List.range rows.length
  | i + 1 => coarsF rows (clsF rows i)
theorem idxOf_le {α : Type} [BEq α] [LawfulBEq α] : ∀ {l : List α} {i : Nat} {a : α}, l[i]? = some a → l.idxOf a ≤ i
  | [], _, _, h => by simp at h
  | x :: l, 0, a, h => by
    have : x = a := by simpa using h
    rw [this, List.idxOf_cons_self]; exact Nat.le_refl _
  | x :: l, i + 1, a, h => by
    by_cases z : x = a
    · rw [z, List.idxOf_cons_self]; omega
    · rw [idxOf_ne z]
      exact Nat.succ_le_succ (idxOf_le (by simpa using h))
theorem getElem?_idxOf {α : Type} [BEq α] [LawfulBEq α] : ∀ {l : List α} {a : α}, a ∈ l → l[l.idxOf a]? = some a
  | [], _, h => by cases h
  | x :: l, a, h => by
    by_cases z : x = a
    · rw [z, List.idxOf_cons_self]; rfl
    · rw [idxOf_ne z]
      simpa using getElem?_idxOf ((List.mem_cons.mp h).resolve_left fun q => z q.symm)
section
variable {k : Nat} {rows : List (List Nat)}
theorem clsF_len (i : Nat) : (clsF rows i).length = rows.length := by
  cases i with
  | zero => simp [clsF]
  | succ i => simp [clsF, coarsF, keysF]
theorem coarsF_len (cls : List Nat) : (coarsF rows cls).length = rows.length := by simp [coarsF, keysF]
theorem coarsF_at {cls : List Nat} {s : Nat} (h : s < rows.length) : (coarsF rows cls).getD s 0 = (keysF rows cls).idxOf (keyOfS cls rows[s]) := by
  simp [coarsF, keysF, List.getD, h]
theorem coarsF_lt {cls : List Nat} : ∀ x ∈ coarsF rows cls, x < rows.length := by
  intro x hx
  obtain ⟨key, hk, rfl⟩ := List.mem_map.mp hx
  have := List.idxOf_lt_length_of_mem hk
  simpa [keysF] using this
theorem clsF_lt (i : Nat) : ∀ x ∈ clsF rows i, x < rows.length := by
  cases i with
  | zero => exact fun t h => List.mem_range.mp h
  | succ i => exact coarsF_lt
/-- alike behind one command more: led to alike states by each command -/
theorem coarsF_iff {cls : List Nat} {s t : Nat} (hs : s < rows.length) (ht : t < rows.length) : (coarsF rows cls).getD s 0 = (coarsF rows cls).getD t 0 ↔ keyOfS cls rows[s] = keyOfS cls rows[t] := by
  rw [coarsF_at hs, coarsF_at ht]
  have m : ∀ {s} (hs : s < rows.length), keyOfS cls rows[s] ∈ keysF rows cls := fun hs => List.mem_map.mpr ⟨_, List.getElem_mem hs, rfl⟩
  constructor
  · intro h
    have h1 := getElem?_idxOf (m hs)
    have h2 := getElem?_idxOf (m ht)
    rw [h, h2] at h1
    exact (Option.some.inj h1).symm
  · intro h; rw [h]
theorem clsF_mono (ok : OkM k rows) : ∀ i {s t : Nat}, s < rows.length → t < rows.length → (clsF rows i).getD s 0 = (clsF rows i).getD t 0 → (clsF rows (i + 1)).getD s 0 = (clsF rows (i + 1)).getD t 0
  | 0, s, t, hs, ht, h => by
    have : s = t := by simpa [clsF, List.getD, hs, ht] using h
    rw [this]
  | i + 1, s, t, hs, ht, h => by
    have h' := (coarsF_iff hs ht).mp h
    refine (coarsF_iff hs ht).mpr ?_
    have ls := ok.rl _ (List.getElem_mem hs)
    have lt := ok.rl _ (List.getElem_mem ht)
    refine List.ext_getElem (by simp [keyOfS, ls, lt]) fun c h1 h2 => ?_
    have hc : c < k := by simpa [keyOfS, ls] using h1
    have e := congrArg (fun l => l[c]?) h'
    simp [keyOfS, ls, lt, hc] at e
    simp only [keyOfS, List.getElem_map]
    exact clsF_mono ok i (ok.rb _ (List.getElem_mem hs) _ (List.getElem_mem _)) (ok.rb _ (List.getElem_mem ht) _ (List.getElem_mem _)) (by simpa [List.getD] using e)
/-- each class is named by its least state -/
theorem clsF_rep (ok : OkM k rows) (i : Nat) {s : Nat} (hs : s < rows.length) : (clsF rows i).getD s 0 < rows.length ∧ (clsF rows i).getD ((clsF rows i).getD s 0) 0 = (clsF rows i).getD s 0 := by
  cases i with
  | zero => simp [clsF, List.getD, hs]
  | succ i =>
    have hl : (clsF rows (i + 1)).getD s 0 < rows.length := by
      have : s < (clsF rows (i + 1)).length := by rw [clsF_len]; exact hs
      simp only [List.getD, List.getElem?_eq_getElem this, Option.getD_some]
      exact clsF_lt (i + 1) _ (List.getElem_mem this)
    refine ⟨hl, ?_⟩
    refine (coarsF_iff (cls := clsF rows i) hl hs).mpr ?_
    have e : (clsF rows (i + 1)).getD s 0 = (keysF rows (clsF rows i)).idxOf (keyOfS (clsF rows i) rows[s]) := coarsF_at hs
    have h1 := getElem?_idxOf (l := keysF rows (clsF rows i)) (a := keyOfS (clsF rows i) rows[s]) (List.mem_map.mpr ⟨_, List.getElem_mem hs, rfl⟩)
    rw [← e] at h1
    simp only [keysF, List.getElem?_map, List.getElem?_eq_getElem hl, Option.map_some, Option.some.injEq] at h1
    exact h1
theorem clsF_le (ok : OkM k rows) (i : Nat) {s : Nat} (hs : s < rows.length) : (clsF rows (i + 1)).getD s 0 ≤ (clsF rows i).getD s 0 := by
  obtain ⟨hr, he⟩ := clsF_rep ok i hs
  have h := clsF_mono ok i hr hs he
  have h' := (coarsF_iff hr hs).mp h
  show (coarsF rows (clsF rows i)).getD s 0 ≤ _
  rw [coarsF_at hs]
  refine idxOf_le ?_
  simp only [keysF, List.getElem?_map, List.getElem?_eq_getElem hr, Option.map_some, h']
theorem sum_lt : ∀ {l m : List Nat}, l.length = m.length → (∀ i, l.getD i 0 ≤ m.getD i 0) → l ≠ m → l.sum < m.sum
  | [], [], _, _, h => absurd rfl h
  | [], _ :: _, h, _, _ => by simp at h
  | _ :: _, [], h, _, _ => by simp at h
  | a :: l, b :: m, hl, h, hn => by
    have h0 : a ≤ b := by simpa using h 0
    have h1 : ∀ i, l.getD i 0 ≤ m.getD i 0 := fun i => by simpa using h (i + 1)
    simp only [List.sum_cons]
    by_cases z : l = m
    · have : a ≠ b := fun q => hn (by rw [q, z])
      rw [z]; omega
    · have := sum_lt (by simpa using hl) h1 z
      omega
theorem clsF_sum (ok : OkM k rows) {i : Nat} (h : clsF rows (i + 1) ≠ clsF rows i) : (clsF rows (i + 1)).sum < (clsF rows i).sum := by
  refine sum_lt (by rw [clsF_len, clsF_len]) (fun s => ?_) h
  by_cases hs : s < rows.length
  · exact clsF_le ok i hs
  · have e : ∀ j, (clsF rows j).getD s 0 = 0 := fun j => by
      have : (clsF rows j)[s]? = none := List.getElem?_eq_none (by rw [clsF_len]; omega)
      simp [List.getD, this]
    rw [e, e]; exact Nat.le_refl _
theorem sum_le {n : Nat} : ∀ {l : List Nat}, (∀ x ∈ l, x ≤ n) → l.sum ≤ l.length * n
  | [], _ => by simp
  | a :: l, h => by
    have := sum_le (l := l) fun x hx => h x (List.mem_cons_of_mem _ hx)
    have h0 := h a List.mem_cons_self
    simp only [List.sum_cons, List.length_cons, Nat.succ_mul]
    omega
theorem clsF_few (ok : OkS k rows) {y : Nat} (h : ∀ i < y, clsF rows (i + 1) ≠ clsF rows i) : y + (clsF rows y).sum ≤ 1600 := by
  induction y with
  | zero =>
    have h1 := sum_le (l := clsF rows 0) (n := 40) fun x hx => by have := clsF_lt 0 x hx; have := ok.n; omega
    rw [clsF_len] at h1
    have := ok.n
    have : rows.length * 40 ≤ 40 * 40 := Nat.mul_le_mul_right _ this
    omega
  | succ y ih =>
    have h1 := ih fun i hi => h i (by omega)
    have h2 := clsF_sum ok.m (h y (by omega))
    omega
end
section
variable {P : Program} {w : World} {K : PySem.W.Frag} {mg : Str → Option Value} {base : Heap} {C : Addr}
/-! ### at_count -/
def spAtCount (K : PySem.W.Frag) : Sp := pureSp fun G vs Post => ∃ v l c, vs = [v, vI c] ∧ Dp K G v (eLR l) ∧ l ≠ [] ∧ l.length ≤ 5000 ∧ Post = fun G' u => Dp K G' u (eR (l.getD (min c (l.length - 1)) []))
theorem sc_at_count : FnScope ["rows", "count"] ["rows", "count"] (defScope s_at_count) := ⟨rfl, rfl, rfl, by decide +kernel, rfl, by decide +kernel, by decide +kernel⟩
theorem ok_at_count (T : Txt K mg C) (F : HasD K mg "at_count" s_at_count) : Def P w K mg base "at_count" 1 ["rows", "count"] (spAtCount K) := by
  refine mkDef F sc_at_count (fun _ _ _ _ _ _ us hl => match us, hl with | [_, _], _ => rfl) (fun vs H Q E h => ?_) fun f cdv A outer s H vs Q E hr h => ?_
  · obtain ⟨G, Post, _, ⟨v, l, c, rfl, _⟩, _⟩ := h
    rfl
  · obtain ⟨G, Post, gh, ⟨v, l, c, rfl, hv, hne, hl5, rfl⟩, q⟩ := h
    refine ⟨_, (pss_one (ps_ret (pe_ix (ixL K) (pv 0) (pe_callB (call_min2 rfl) (by rfl) T.f_min (by decide +kernel) (pa_cons (pv 1) (pa_cons (pe_op op_sub (pe_callB (lenS K) (by rfl) T.f_len (by decide +kernel) (pa_cons (pv 0) pa_nil)) pe_int) pa_nil))) (fun _ _ => rfl)))), ?_⟩
    obtain ⟨a, xs, rfl, hs, hxs⟩ := dp_list hv
    have hl := dpA_len hxs
    rw [List.length_map] at hl
    have hpos : 0 < l.length := List.length_pos_iff.mpr hne
    refine ⟨_, rfl, _, rfl, _, rfl, a, xs, rfl, .inl (gh.seq hs), _, _, rfl, rfl, (c : Int), (xs.length : Int) - 1, rfl, ?_⟩
    have e : (if (xs.length : Int) - 1 < (c : Int) then (xs.length : Int) - 1 else (c : Int)) = ((min c (l.length - 1) : Nat) : Int) := by
      rw [hl]
      by_cases z : (l.length : Int) - 1 < (c : Int)
      · rw [if_pos z, Nat.min_eq_right (by omega)]; omega
      · rw [if_neg z, Nat.min_eq_left (by omega)]
    rw [e]
    refine rd_ixL hv gh (d := eR (l.getD (min c (l.length - 1)) [])) ?_ fun u hu => q _ _ _ (Ext.refl gh) hu
    have hi : min c (l.length - 1) < l.length := by omega
    simp [List.getD, hi]
/-! ### coarser -/
def spCoarser (K : PySem.W.Frag) (C : Addr) : Sp := pureSp fun G vs Post => ∃ v u k rows cls, vs = [v, u] ∧ Mac K C G v k rows ∧ OkS k rows ∧ Dp K G u (eR cls) ∧ cls.length = rows.length ∧ Post = fun G' u => Dp K G' u (eR (coarsF rows cls))
theorem sc_coarser : FnScope ["machine", "classes", "firsts", "found", "state", "key", "later"] ["machine", "classes"] (defScope s_coarser) := ⟨rfl, rfl, rfl, by decide +kernel, rfl, by decide +kernel, by decide +kernel⟩
theorem ok_coarser (T : Txt K mg C) (F : HasD K mg "coarser" s_coarser) : Def P w K mg base "coarser" 1 ["machine", "classes"] (spCoarser K C) := by
  refine mkDef F sc_coarser (fun _ _ _ _ _ _ us hl => match us, hl with | [_, _], _ => rfl) (fun vs H Q E h => ?_) fun f cdv A outer s H vs Q E hr h => ?_
  · obtain ⟨G, Post, _, ⟨v, u, k, rows, cls, rfl, _⟩, _⟩ := h
    rfl
  · obtain ⟨G, Post, gh, ⟨v, u, k, rows, cls, rfl, hm, ok, hu, hcl, rfl⟩, q⟩ := h
    refine ⟨_, (pss_cons (ps_par (i := 2) (j := 3) rfl sc_coarser.nd rfl rfl (by decide) rfl rfl (pa_cons (dnewN P w K) (pa_cons (pe_lst pa_nil) pa_nil)) (by rfl)) (pss_cons (ps_for PassesOwn.never rfl (pi_range1 (by rfl) T.f_range (pa_cons (pf K (pv 0)) pa_nil)) (pg_name (i := 4) sc_coarser.nd rfl (by first | exact Or.inl rfl | exact Or.inr rfl)) (pss_cons (ps_set (i := 5) sc_coarser.nd rfl (by first | exact Or.inl rfl | exact Or.inr rfl) (pe_callTy (tupOf K) (by rfl) T.f_tuple (by decide +kernel) (pa_cons (pe_lc (own := [("later", 6)]) rfl sc_coarser.nd (piT K (pe_ix (ixT K) (pf K (pv 0)) (pv 4) (fun _ _ => rfl))) (blkOk_by (own := [("later", 6)]) (by kernel_rfl)) (fun _ _ _ _ _ => (pg_name (i := 6) sc_coarser.nd rfl (by first | exact Or.inl rfl | exact Or.inr rfl))) (fun _ _ _ _ _ => pts_nil) (fun _ _ _ _ _ => (pe_ix (ixT K) (pv 1) (pv 6) (fun _ _ => rfl)))) pa_nil))) (pss_one (ps_expr (pe_bm PySem.F.plainAttrs_list PySem.F.slot_list_append PySem.F.type_list_append mt_append (pv 3) (pa_cons (setdN P w K (hu9 hr) (pv 2) (pv 5) (pv 4)) pa_nil)))))) (pss_one (ps_ret (pe_callTy (tupOf K) (by rfl) T.f_tuple (by decide +kernel) (pa_cons (pv 3) pa_nil)))))), ?_⟩
    obtain ⟨p, dx, st, rfl, hp, hst⟩ := hm
    obtain ⟨ca, rfl, hca⟩ := dp_row hu
    refine fun D hD hDat => ⟨by show 0 ≤ sizeLine; decide, fun l hl => ⟨_, _, rfl, ?_⟩⟩
    have hne : D ≠ l := fun z => by rw [z, upd_same] at hl; cases hl
    have hl0 : H l = none := by rw [upd_ne (Ne.symm hne)] at hl; exact hl
    have e0 := ((Ext.refl (X := []) gh).newM (o := DN P w D []) hD).newM (o := .lst []) hl
    have hks : (keysF rows cls).length = rows.length := by simp [keysF]
    refine ⟨_, rfl, p, C, dx, _, _, rfl, e0.gh _ _ hp, T.cl, T.nS, lk_states, (rows.length : Int), rfl, by omega, by have := ok.n; omega, ?_⟩
    rw [Int.toNat_natCast]
    refine for_it walk_range (fun i σ H' => ∃ G' kvs xs v4 v5, Ext [] G H G' H' ∧ G' D = none ∧ G' l = none ∧ DAt P w K G' H' D kvs ∧ kvs.length ≤ i ∧ (∀ key, valV kvs (toK (eR key)) = if key ∈ (keysF rows cls).take i then some (vI ((keysF rows cls).idxOf key)) else none) ∧
        H' l = some (.lst xs) ∧ xs = ((coarsF rows cls).take i).map vI ∧ σ = [some (.ref p), some (.ref ca), some (.ref D), some (.ref l), v4, v5, none])
      ⟨G, [], [], none, none, e0, gh.free hD, gh.free hl0, dat_up (hDat G) (L2.Same.refl _) (upd_ne hne), Nat.le_refl _, fun key => by simp [valV], upd_same, rfl, rfl⟩ (fun _ _ _ _ _ => trivial) ?_ ?_
    · rintro i x σ H1 H2 hi ⟨G', kvs, xs, v4, v5, e, gD, gl, DD, hkl, hkv, hx1, hx2, rfl⟩ ⟨rfl, rfl⟩
      have hz : (fun i : Nat => V.int (0 + (i : Int))) i = vI i := by simp
      rw [hz]
      refine ⟨_, rfl, p, C, dx, _, _, rfl, (e.gg.trans e.gh) _ _ hp, T.cl, T.nT, lk_steps, _, rfl, ?_⟩
      refine rd_row (dp_up e.gg hst) e.gh hi fun u hu => ?_
      obtain ⟨ra, rfl, hra⟩ := dp_row hu
      have hrl := ok.m.rl _ (List.getElem_mem hi)
      have hk9 := ok.m.k9
      refine ⟨ra, rfl, ⟨_, same_t e.gh hra⟩, fun D2 hD2 => lcTD (K := K) ((keyOfS cls rows[i]).map eI) (by simp [keyOfS]) e.gh hra hD2 (fun _ => rfl) (by simp; omega) (fun j x r hj hr G3 H3 e3 Q3 q3 => ?_) fun G3 H3 e3 d3 => ?_⟩
      · have hjr : j < rows[i].length := by have := (List.getElem?_eq_some_iff.mp hj).1; simpa using this
        obtain rfl : x = vI rows[i][j] := by simp [hjr] at hj; exact hj.symm
        have hb := ok.m.rb _ (List.getElem_mem hi) _ (List.getElem_mem hjr)
        obtain rfl : r = eI (cls[rows[i][j]]'(by omega)) := by
          simp [keyOfS, hjr] at hr
          rw [← hr]
          simp [List.getD, show rows[i][j] < cls.length by omega]
        refine ⟨_, rfl, _, rfl, ?_⟩
        exact rd_nat (dp_up (e.gg.trans e3.gg) (Dp.tup hca (dpA_ints cls))) e3.gh (by omega) (q3 _ _ _ (Ext.refl e3.gh) (.int _))
      · dsimp only [tNil]
        refine rd_tupOf d3 e3.gh fun t G4 H4 e4 d4 => ?_
        have e34 := e3.trans e4
        obtain ⟨xs', z1, z2, z3⟩ := DD.ex
        obtain ⟨y1, y2⟩ := e34.keepM z1 gD (by simp)
        obtain ⟨y3, y4⟩ := e34.keepM hx1 gl (by simp)
        have D4 : DAt P w K G4 H4 D kvs := dat_up DD e34.gg (by rw [y1, z1])
        have e04 := e.trans e34
        have hki : (keysF rows cls)[i]? = some (keyOfS cls rows[i]) := by simp [keysF, hi]
        have hii : i < (keysF rows cls).length := by rw [hks]; exact hi
        have hat : (coarsF rows cls)[i]? = some ((keysF rows cls).idxOf (keyOfS cls rows[i])) := by
          unfold coarsF
          rw [List.getElem?_map, hki]; rfl
        have htk : ((coarsF rows cls).take (i + 1)).map vI = xs ++ [vI ((keysF rows cls).idxOf (keyOfS cls rows[i]))] := by
          obtain ⟨hc1, hc2⟩ := List.getElem?_eq_some_iff.mp hat
          rw [hx2, List.take_succ_eq_append_getElem hc1, List.map_append, hc2]; rfl
        have htk2 : (keysF rows cls).take (i + 1) = (keysF rows cls).take i ++ [keyOfS cls rows[i]] := by
          obtain ⟨hc1, hc2⟩ := List.getElem?_eq_some_iff.mp hki
          rw [List.take_succ_eq_append_getElem hc1, hc2]
        have hxl : xs.length < sizeLine := by
          rw [hx2, List.length_map, List.length_take, coarsF_len]
          have := ok.n
          exact Nat.lt_of_le_of_lt (show min i rows.length ≤ 40 by omega) (by decide)
        refine ⟨_, rfl, .inl ⟨rfl, _, .of y3⟩, _, rfl, D, xs', rfl, y1, _, rfl, _, rfl, G4, kvs, toK (eR (keyOfS cls rows[i])), e4.gh, y2, D4, kd_row d4, Nat.lt_of_le_of_lt (show kvs.length ≤ 40 by have := ok.n; omega) (by decide), fun v' hv' => ?_, fun hv' o D5 => ?_⟩
        · rw [hkv] at hv'
          have hin : keyOfS cls rows[i] ∈ (keysF rows cls).take i := by
            apply Decidable.byContradiction
            intro z
            rw [if_neg z] at hv'; cases hv'
          rw [if_pos hin] at hv'
          cases hv'
          refine ⟨l, xs, _, rfl, rfl, y3, hxl, G4, kvs, _, _, _, e04.mut (.inl hl0) y4, y2, y4, dat_up D4 (L2.Same.refl _) (upd_ne hne), by omega, fun key => ?_, upd_same, htk.symm, rfl⟩
          rw [hkv, htk2]
          by_cases z : key = keyOfS cls rows[i]
          · rw [z, if_pos hin, if_pos (by simp)]
          · by_cases y : key ∈ (keysF rows cls).take i
            · rw [if_pos y, if_pos (by simp [y])]
            · rw [if_neg y, if_neg (by simp [y, z])]
        · rw [hkv] at hv'
          have hnin : keyOfS cls rows[i] ∉ (keysF rows cls).take i := by
            intro z
            rw [if_pos z] at hv'; cases hv'
          have hidx : (keysF rows cls).idxOf (keyOfS cls rows[i]) = i := by
            have h1 := idxOf_le hki
            apply Decidable.byContradiction
            intro hne2
            refine hnin ?_
            have h2 := getElem?_idxOf (List.mem_of_getElem? hki)
            exact List.mem_of_getElem? (i := (keysF rows cls).idxOf (keyOfS cls rows[i])) (by rw [List.getElem?_take, if_pos (by omega)]; exact h2)
          rw [hidx] at htk
          refine ⟨l, xs, _, rfl, rfl, by rw [upd_ne (Ne.symm hne)]; exact y3, hxl, G4, _, _, _, _, (e04.mut (.inl hD) y2).mut (.inl hl0) y4, y2, y4, dat_up D5 (L2.Same.refl _) (upd_ne hne), Nat.le_trans (length_putK _ _ _) (by omega), fun key => ?_, upd_same, htk.symm, rfl⟩
          rw [valV_put, hkv, htk2]
          by_cases z : key = keyOfS cls rows[i]
          · rw [z, if_pos rfl, if_pos (by simp), hidx]
          · rw [if_neg (fun q => z (kRow.k_inj q))]
            by_cases y : key ∈ (keysF rows cls).take i
            · rw [if_pos y, if_pos (by simp [y])]
            · rw [if_neg y, if_neg (by simp [y, z])]
    · rintro σ H1 ⟨G', kvs, xs, v4, v5, e, gD, gl, DD, hkl, hkv, hx1, rfl, rfl⟩
      rw [← coarsF_len (rows := rows) cls, List.take_length] at hx1
      refine ⟨_, rfl, ?_⟩
      have e5 := e.pub hl0 gl hx1
      refine rd_tupOf (ds := (coarsF rows cls).map eI) ⟨l, _, rfl, upd_same, dpA_ints _⟩ e5.gh fun t G4 H4 e4 d4 => q _ _ _ (e5.trans e4) d4
end
end K78

/-! text F8 -/
set_option Elab.async false
set_option linter.all false
set_option maxRecDepth 100000
set_option maxHeartbeats 4000000
namespace K78
open PySem PySem.Spec PyProof.Rows L2
section
variable {P : Program} {w : World} {K : PySem.W.Frag} {mg : Str → Option Value} {base : Heap} {C : Addr}
/-! ### all_joined, layers_of -/
def spJoined (K : PySem.W.Frag) (C : Addr) : Sp := pureSp fun G vs Post => ∃ v k rows, vs = [v] ∧ Mac K C G v k rows ∧ OkS k rows ∧ Post = fun G' u => ∃ y, Settled (clsF rows) y ∧ y ≤ 1600 ∧ Ld K G' u ((layersTo (clsF rows) y).map eR)
theorem sc_all_joined : FnScope ["machine", "found", "later"] ["machine"] (defScope s_all_joined) := ⟨rfl, rfl, rfl, by decide +kernel, rfl, by decide +kernel, by decide +kernel⟩
theorem ok_all_joined (T : Txt K mg C) (F : HasD K mg "all_joined" s_all_joined) (d_coarser : Def P w K mg base "coarser" 1 ["machine", "classes"] (spCoarser K C)) : Def P w K mg base "all_joined" 2 ["machine"] (spJoined K C) := by
  refine mkDef F sc_all_joined (fun _ _ _ _ _ _ us hl => match us, hl with | [_], _ => rfl) (fun vs H Q E h => ?_) fun f cdv A outer s H vs Q E hr h => ?_
  · obtain ⟨G, Post, _, ⟨v, k, rows, rfl, _⟩, _⟩ := h
    rfl
  · obtain ⟨G, Post, gh, ⟨v, k, rows, rfl, hm, ok, rfl⟩, q⟩ := h
    refine ⟨_, (pss_cons (ps_set (i := 1) sc_all_joined.nd rfl (by first | exact Or.inl rfl | exact Or.inr rfl) (pe_lst (pa_cons (pe_tupRg rfl (by rfl) T.f_tuple (prg_1 (by rfl) T.f_range (pf K (pv 0)))) pa_nil))) (pss_one (ps_while PassesOwn.never (pt_val pe_bl) (pss_cons (ps_set (i := 2) sc_all_joined.nd rfl (by first | exact Or.inl rfl | exact Or.inr rfl) (pe_def d_coarser (hr.mono (by decide)) (by rfl) (pa_cons (pv 0) (pa_cons (pe_ix (ixL K) (pv 1) (pe_un un_neg pe_int) (fun _ _ => rfl)) pa_nil)))) (pss_cons (ps_if (pt_cmpR (eqD K (hu64 hr)) (pv 2) (pe_ix (ixL K) (pv 1) (pe_un un_neg pe_int) (fun _ _ => rfl)) (nomark _)) (pss_one (ps_ret (pv 1))) pss_nil) (pss_one (ps_expr (pe_bm PySem.F.plainAttrs_list PySem.F.slot_list_append PySem.F.type_list_append mt_append (pv 1) (pa_cons (pv 2) pa_nil))))))))), ?_⟩
    have hm0 := hm
    obtain ⟨p, dx, st, rfl, hp, hst⟩ := hm
    have hn9 := ok.m.n9
    refine ⟨_, rfl, p, C, dx, _, _, rfl, gh _ _ hp, T.cl, T.nS, lk_states, (rows.length : Int), rfl, RgOk.of_le (by omega) (by omega) (by omega) (by omega), fun q1 hq1 => ?_⟩
    rw [rg_nat]
    have e1 := (Ext.refl (X := []) gh).new (o := .tup ((List.range rows.length).map vI)) hq1
    have d1 : Dp K _ (.ref q1) (eR (List.range rows.length)) := tup_new gh hq1 (dpA_ints (List.range rows.length))
    generalize upd G q1 (.tup ((List.range rows.length).map vI)) = G1 at e1 d1
    generalize upd H q1 (.tup ((List.range rows.length).map vI)) = H1 at e1 ⊢
    refine ⟨by show 1 ≤ sizeLine; decide, fun l hl => ?_⟩
    refine ⟨fun m σ H' => ∃ G' x xs v2, Ext [] G H G' H' ∧ G' l = none ∧ H' l = some (.lst xs) ∧ DpAll K G' xs ((layersTo (clsF rows) x).map eR) ∧ (∀ i < x, clsF rows (i + 1) ≠ clsF rows i) ∧ m + x = 1601 ∧ σ = [some (.ref p), some (.ref l), v2],
      ⟨1601, G1, 0, [.ref q1], none, e1.newM hl, e1.gh.free hl, upd_same, .cons d1 .nil, fun i hi => by omega, rfl, rfl⟩, ?_⟩
    have hl0 : H l = none := e1.base hl
    rintro m σ H' ⟨G', x, xs, v2, e, hg, hx1, hx2, hx3, hmx, rfl⟩
    refine ⟨true, rfl, iteT ⟨fun σ' H' => _, fun _ _ h => h, ?_⟩⟩
    have hfew := clsF_few ok hx3
    obtain ⟨il, hil⟩ := layersTo_init (clsF rows) x
    have hx2' := hx2
    rw [hil, List.map_append] at hx2'
    obtain ⟨ys, y, rfl, hy1, hy2⟩ := dpA_snoc hx2'
    refine ⟨_, rfl, _, rfl, _, rfl, l, ys ++ [y], -1, y, rfl, rfl, .of hx1, atI_last ys y, G', _, e.gh, ⟨.ref p, y, k, rows, clsF rows x, rfl, mac_up e.gg hm0, ok, hy2, clsF_len x, rfl⟩, fun u G2 H2 e2 d2 => ?_⟩
    have d2 : Dp K G2 u (eR (clsF rows (x + 1))) := d2
    obtain ⟨f1, f2⟩ := e2.keepM hx1 hg (by simp)
    refine ⟨_, rfl, _, rfl, _, rfl, l, ys ++ [y], -1, y, rfl, rfl, .of f1, atI_last ys y, eR (clsF rows (x + 1)), eR (clsF rows x), dp_up e2.gh d2, dp_up (e2.gg.trans e2.gh) hy2, sh_row _, sh_row _, _, rfl, ?_⟩
    rw [eqv_row]
    by_cases z : clsF rows (x + 1) = clsF rows x
    · refine iteTb (decide_eq_true z) ⟨_, rfl, ?_⟩
      exact q _ _ _ ((e.trans e2).pub hl0 f2 f1) ⟨x, ⟨hx3, z⟩, by omega, l, _, rfl, upd_same, dpA_up (e2.gg.trans fun b o hb => by rw [upd_ne (ne_of_none hb f2)]; exact hb) hx2⟩
    · have hx4 : ∀ i < x + 1, clsF rows (i + 1) ≠ clsF rows i := fun i hi => by
        by_cases y : i = x
        · rw [y]; exact z
        · exact hx3 i (by omega)
      have hfew4 := clsF_few ok hx4
      refine iteFb (decide_eq_false z) ⟨_, rfl, .inl ⟨rfl, _, .of f1⟩, _, rfl, l, _, u, rfl, rfl, f1, ?_, m - 1, by omega, G2, x + 1, _, _, (e.trans e2).mut (.inl hl0) f2, f2, upd_same, ?_, hx4, by omega, rfl⟩
      · have := dpA_len hx2
        simp only [List.length_map, layersTo, List.length_range] at this
        rw [this]
        exact Nat.lt_of_le_of_lt (show x + 1 ≤ 2000 by omega) (by decide)
      · rw [layersTo_snoc, List.map_append]
        exact dpA_app (dpA_up e2.gg hx2) (.cons d2 .nil)
/-- the two rows of layers, as a pair -/
def LayV (K : PySem.W.Frag) (G : Hp) (u : V) (rows : List (List Nat)) (x y : Nat) : Prop := Dp K G u (.tuple [eLR (layersTo (behF rows) x), eLR (layersTo (clsF rows) y)])
def spLayers (K : PySem.W.Frag) (C : Addr) : Sp := pureSp fun G vs Post => ∃ v k rows, vs = [v] ∧ Mac K C G v k rows ∧ OkS k rows ∧ Post = fun G' u => ∃ x y, Settled (behF rows) x ∧ Settled (clsF rows) y ∧ LayV K G' u rows x y
theorem sc_layers_of : FnScope ["machine"] ["machine"] (defScope s_layers_of) := ⟨rfl, rfl, rfl, by decide +kernel, rfl, by decide +kernel, by decide +kernel⟩
theorem ok_layers_of (T : Txt K mg C) (F : HasD K mg "layers_of" s_layers_of) (d_all_behind : Def P w K mg base "all_behind" 2 ["machine"] (spBehind K C)) (d_all_joined : Def P w K mg base "all_joined" 2 ["machine"] (spJoined K C)) : Def P w K mg base "layers_of" 3 ["machine"] (spLayers K C) := by
  refine mkDef F sc_layers_of (fun _ _ _ _ _ _ us hl => match us, hl with | [_], _ => rfl) (fun vs H Q E h => ?_) fun f cdv A outer s H vs Q E hr h => ?_
  · obtain ⟨G, Post, _, ⟨v, k, rows, rfl, _⟩, _⟩ := h
    rfl
  · obtain ⟨G, Post, gh, ⟨v, k, rows, rfl, hm, ok, rfl⟩, q⟩ := h
    refine ⟨_, (pss_one (ps_ret (pe_tup (pa_cons (pe_def d_all_behind (hr.mono (by decide)) (by rfl) (pa_cons (pv 0) pa_nil)) (pa_cons (pe_def d_all_joined (hr.mono (by decide)) (by rfl) (pa_cons (pv 0) pa_nil)) pa_nil))))), ?_⟩
    refine ⟨_, rfl, G, _, gh, ⟨v, k, rows, rfl, hm, ok, rfl⟩, fun u1 G1 H1 e1 ⟨x, hx, d1⟩ => ?_⟩
    refine ⟨_, rfl, G1, _, e1.gh, ⟨v, k, rows, rfl, mac_up e1.gg hm, ok, rfl⟩, fun u2 G2 H2 e2 ⟨y, hy, _, d2⟩ => ⟨by show 2 ≤ sizeLine; decide, fun t ht => ?_⟩⟩
    exact q _ _ _ ((e1.trans e2).new ht) ⟨x, y, hx, hy, tup_new e2.gh ht (.cons (dp_up e2.gg (ld_dp d1)) (.cons (ld_dp d2) .nil))⟩
end
end K78

/-! text F9 -/
set_option Elab.async false
set_option linter.all false
set_option maxRecDepth 100000
set_option maxHeartbeats 4000000
namespace K78
open PySem PySem.Spec PyProof.Rows L2

/-! ### pairs, plain -/
def at2 (rows : List (List Nat)) (s c : Nat) : Nat := (rows.getD s []).getD c 0
def pairsAll (n : Nat) : List (Nat × Nat) := (List.range n).flatMap fun i => (List.range n).map fun j => (i, j)
theorem mem_pairsAll {n : Nat} {p : Nat × Nat} : p ∈ pairsAll n ↔ p.1 < n ∧ p.2 < n := by
  unfold pairsAll
  rw [List.mem_flatMap]
  constructor
  · rintro ⟨i, hi, h⟩
    obtain ⟨j, hj, rfl⟩ := List.mem_map.mp h
    exact ⟨List.mem_range.mp hi, List.mem_range.mp hj⟩
  · rintro ⟨h1, h2⟩
    exact ⟨p.1, List.mem_range.mpr h1, List.mem_map.mpr ⟨p.2, List.mem_range.mpr h2, rfl⟩⟩
theorem srt_pairsAll (n : Nat) : SrtP (pairsAll n) := by
  unfold pairsAll
  have gen : ∀ (l : List Nat), SrtN l → SrtP (l.flatMap fun i => (List.range n).map fun j => (i, j)) := by
    intro l
    induction l with
    | nil => intro _; simp
    | cons i l ih =>
      intro h
      obtain ⟨h1, h2⟩ := List.pairwise_cons.mp h
      rw [List.flatMap_cons]
      refine List.pairwise_append.mpr ⟨List.pairwise_map.mpr ((range_srt n).imp fun h => .inr ⟨rfl, h⟩), ih h2, fun p hp q hq => ?_⟩
      obtain ⟨j, _, rfl⟩ := List.mem_map.mp hp
      obtain ⟨i', hi', hq⟩ := List.mem_flatMap.mp hq
      obtain ⟨j', _, rfl⟩ := List.mem_map.mp hq
      exact .inl (h1 i' hi')
  exact gen _ (range_srt n)
/-- the pairs to which two commands lead each of some states -/
def openF (rows : List (List Nat)) (S : List Nat) (a c : Nat) : List (Nat × Nat) := (pairsAll rows.length).filter fun p => S.any fun s => decide (p = (at2 rows s a, at2 rows s c))
/-- the pairs to which one command leads some pairs -/
def carrF (k : Nat) (rows : List (List Nat)) (l : List (Nat × Nat)) : List (Nat × Nat) := (pairsAll rows.length).filter fun p => l.any fun q => (List.range k).any fun c => decide (p = (at2 rows q.1 c, at2 rows q.2 c))
section
variable {k : Nat} {rows : List (List Nat)}
theorem at2_lt (ok : OkM k rows) {s c : Nat} (hs : s < rows.length) (hc : c < k) : at2 rows s c < rows.length := by
  have := ok.rl _ (List.getElem_mem hs)
  unfold at2
  simp only [List.getD, List.getElem?_eq_getElem hs, Option.getD_some, List.getElem?_eq_getElem (show c < rows[s].length by omega)]
  exact ok.rb _ (List.getElem_mem hs) _ (List.getElem_mem _)
theorem at2_eq (ok : OkM k rows) {s c : Nat} (hs : s < rows.length) (hc : c < rows[s].length) : at2 rows s c = rows[s][c] := by
  unfold at2
  simp only [List.getD, List.getElem?_eq_getElem hs, Option.getD_some, List.getElem?_eq_getElem hc]
theorem mem_openF (ok : OkM k rows) {S : List Nat} {a c : Nat} (hS : ∀ s ∈ S, s < rows.length) (ha : a < k) (hc : c < k) {p : Nat × Nat} : p ∈ openF rows S a c ↔ ∃ s ∈ S, p = (at2 rows s a, at2 rows s c) := by
  unfold openF
  rw [List.mem_filter, mem_pairsAll, List.any_eq_true]
  constructor
  · rintro ⟨_, s, hs, h⟩
    exact ⟨s, hs, of_decide_eq_true h⟩
  · rintro ⟨s, hs, rfl⟩
    exact ⟨⟨at2_lt ok (hS s hs) ha, at2_lt ok (hS s hs) hc⟩, s, hs, decide_eq_true rfl⟩
theorem mem_carrF (ok : OkM k rows) {l : List (Nat × Nat)} (hl : ∀ q ∈ l, q.1 < rows.length ∧ q.2 < rows.length) {p : Nat × Nat} : p ∈ carrF k rows l ↔ ∃ q ∈ l, ∃ c < k, p = (at2 rows q.1 c, at2 rows q.2 c) := by
  unfold carrF
  rw [List.mem_filter, mem_pairsAll, List.any_eq_true]
  constructor
  · rintro ⟨_, q, hq, h⟩
    obtain ⟨c, hc, h⟩ := List.any_eq_true.mp h
    exact ⟨q, hq, c, List.mem_range.mp hc, of_decide_eq_true h⟩
  · rintro ⟨q, hq, c, hc, rfl⟩
    exact ⟨⟨at2_lt ok (hl q hq).1 hc, at2_lt ok (hl q hq).2 hc⟩, q, hq, List.any_eq_true.mpr ⟨c, List.mem_range.mpr hc, decide_eq_true rfl⟩⟩
theorem openF_srt (S : List Nat) (a c : Nat) : SrtP (openF rows S a c) := (srt_pairsAll _).filter _
theorem carrF_srt (l : List (Nat × Nat)) : SrtP (carrF k rows l) := (srt_pairsAll _).filter _
theorem openF_lt {S : List Nat} {a c : Nat} : ∀ q ∈ openF rows S a c, q.1 < rows.length ∧ q.2 < rows.length := fun q h => mem_pairsAll.mp (List.mem_filter.mp h).1
theorem carrF_lt {l : List (Nat × Nat)} : ∀ q ∈ carrF k rows l, q.1 < rows.length ∧ q.2 < rows.length := fun q h => mem_pairsAll.mp (List.mem_filter.mp h).1
theorem srtP_few {l : List (Nat × Nat)} {n : Nat} (h : SrtP l) (hb : ∀ q ∈ l, q.1 < n ∧ q.2 < n) : l.length ≤ n * n := by
  have nd : l.Nodup := h.imp fun {a b} h e => by subst e; omega
  have := nodup_le nd (m := pairsAll n) fun q hq => mem_pairsAll.mpr (hb q hq)
  have e : (pairsAll n).length = n * n := by
    unfold pairsAll
    have gen : ∀ L : List Nat, (L.flatMap fun i => (List.range n).map fun j => (i, j)).length = L.length * n := by
      intro L
      induction L with
      | nil => simp
      | cons r L ih => rw [List.flatMap_cons, List.length_append, ih, List.length_map, List.length_range, List.length_cons, Nat.succ_mul, Nat.add_comm]
    rw [gen, List.length_range]
  omega
end
section
variable {P : Program} {w : World} {K : PySem.W.Frag} {mg : Str → Option Value} {base : Heap} {C : Addr}
/-! ### opened -/
def spOpened (K : PySem.W.Frag) (C : Addr) : Sp := pureSp fun G vs Post => ∃ v u k rows S a c, vs = [v, u, vI a, vI c] ∧ Mac K C G v k rows ∧ OkS k rows ∧ Dp K G u (eR S) ∧ (∀ s ∈ S, s < rows.length) ∧ S.length ≤ 40 ∧ a < k ∧ c < k ∧ Post = fun G' u => Dp K G' u (ePs (openF rows S a c))
theorem sqT_pair {G : Hp} {b : Addr} {t u : Nat} (h : SqT K G b [vI t, vI u]) : Dp K G (.ref b) (eP (t, u)) := .tup h (.cons (.int _) (.cons (.int _) .nil))
theorem sc_opened : FnScope ["machine", "states", "a", "c", "state"] ["machine", "states", "a", "c"] (defScope s_opened) := ⟨rfl, rfl, rfl, by decide +kernel, rfl, by decide +kernel, by decide +kernel⟩
theorem ok_opened (T : Txt K mg C) (F : HasD K mg "opened" s_opened) : Def P w K mg base "opened" 1 ["machine", "states", "a", "c"] (spOpened K C) := by
  refine mkDef F sc_opened (fun _ _ _ _ _ _ us hl => match us, hl with | [_, _, _, _], _ => rfl) (fun vs H Q E h => ?_) fun f cdv A outer s H vs Q E hr h => ?_
  · obtain ⟨G, Post, _, ⟨v, u, k, rows, S, a, c, rfl, _⟩, _⟩ := h
    rfl
  · obtain ⟨G, Post, gh, ⟨v, u, k, rows, S, a, c, rfl, hm, ok, hu, hS, hSl, ha, hc, rfl⟩, q⟩ := h
    refine ⟨_, (pss_one (ps_ret (pe_callTy (tupOf K) (by rfl) T.f_tuple (by decide +kernel) (pa_cons (pe_callB (cr_sortedT rfl) (by rfl) T.f_sorted (by decide +kernel) (pa_cons (pe_scT (own := [("state", 4)]) (hu1 hr) rfl sc_opened.nd (piT K (pv 1)) (blkOk_by (own := [("state", 4)]) (by kernel_rfl)) (fun _ _ _ _ _ => (pg_name (i := 4) sc_opened.nd rfl (by first | exact Or.inl rfl | exact Or.inr rfl))) (fun _ _ _ _ _ => (pe_tup (pa_cons (pe_ix (ixT K) (pe_ix (ixT K) (pf K (pv 0)) (pv 4) (fun _ _ => rfl)) (pv 2) (fun _ _ => rfl)) (pa_cons (pe_ix (ixT K) (pe_ix (ixT K) (pf K (pv 0)) (pv 4) (fun _ _ => rfl)) (pv 3) (fun _ _ => rfl)) pa_nil))))) pa_nil)) pa_nil)))), ?_⟩
    obtain ⟨p, dx, st, rfl, hp, hst⟩ := hm
    obtain ⟨sa, rfl, hs⟩ := dp_row hu
    refine ⟨_, rfl, sa, rfl, ⟨_, same_t gh hs⟩, fun D hD => loopC_it (walk_tup (K := K) (a := sa) (xs := S.map vI)) (fun i H' => ∃ G' L, Ext [] G H G' H' ∧ G' D = none ∧ H' D = some (SetTO P w D L) ∧
        (∀ q ∈ L, ∃ s ∈ S, q.2 = [(at2 rows s a : Int), (at2 rows s c : Int)] ∧ SqT K G' q.1 [vI (at2 rows s a), vI (at2 rows s c)]) ∧ (∀ s ∈ S.take i, [(at2 rows s a : Int), (at2 rows s c : Int)] ∈ L.map (·.2)) ∧ L.length ≤ i)
      ⟨G, [], (Ext.refl gh).newM hD, gh.free hD, upd_same, fun q h => by simp at h, fun s h => by simp at h, Nat.le_refl _⟩ (fun i H' _ ⟨G', _, e, _⟩ => same_t (e.gg.trans e.gh) hs) ?_ ?_⟩
    · rintro i x H' H'' hi ⟨G', L, e, hg, hL, h1, h2, h3⟩ ⟨rfl, hx⟩
      rw [List.length_map] at hi
      obtain rfl : x = vI S[i] := by simp [hi] at hx; exact hx.symm
      have hsl : S[i] < rows.length := hS _ (List.getElem_mem hi)
      have hrl := ok.m.rl _ (List.getElem_mem hsl)
      refine ⟨rfl, ?_⟩
      dsimp only [tYes]
      refine iteT ⟨_, rfl, p, C, dx, _, _, rfl, (e.gg.trans e.gh) _ _ hp, T.cl, T.nT, lk_steps, _, rfl, ?_⟩
      refine rd_row (dp_up e.gg hst) e.gh hsl fun u hu => ⟨_, rfl, ?_⟩
      refine rd_nat hu e.gh (c := a) (by omega) ?_
      refine ⟨_, rfl, p, C, dx, _, _, rfl, (e.gg.trans e.gh) _ _ hp, T.cl, T.nT, lk_steps, _, rfl, ?_⟩
      refine rd_row (dp_up e.gg hst) e.gh hsl fun u' hu' => ⟨_, rfl, ?_⟩
      refine rd_nat hu' e.gh (c := c) (by omega) ?_
      rw [← at2_eq ok.m hsl (by omega : a < rows[S[i]].length), ← at2_eq ok.m hsl (by omega : c < rows[S[i]].length)]
      refine ⟨by show 2 ≤ sizeLine; decide, fun b hb => ?_⟩
      have hbD : b ≠ D := fun z => by rw [z, hL] at hb; cases hb
      have e2 := e.new (o := .tup [vI (at2 rows S[i] a), vI (at2 rows S[i] c)]) hb
      have gup : ∀ q o, G' q = some o → upd G' b (.tup [vI (at2 rows S[i] a), vI (at2 rows S[i] c)]) q = some o := fun q o hq => by rw [upd_ne (ne_of_none hq (e.gh.free hb))]; exact hq
      refine ⟨b, [(at2 rows S[i] a : Int), (at2 rows S[i] c : Int)], L, rfl, .of upd_same, by rw [upd_ne (Ne.symm hbD)]; exact hL, fun r hr => ?_, by have := ok.n; omega, fun L' l1 l2 => ?_⟩
      · obtain ⟨s, _, z1, z2⟩ := h1 r hr
        rw [z1]
        exact same_t (L2.Same.trans (fun q o hq => gup q o hq) e2.gh) z2
      have hgD : upd G' b (.tup [vI (at2 rows S[i] a), vI (at2 rows S[i] c)]) D = none := by rw [upd_ne (Ne.symm hbD)]; exact hg
      have hnew : SqT K (upd G' b (.tup [vI (at2 rows S[i] a), vI (at2 rows S[i] c)])) b [vI (at2 rows S[i] a), vI (at2 rows S[i] c)] := .of upd_same
      rw [List.take_succ_eq_append_getElem hi]
      by_cases hin : [(at2 rows S[i] a : Int), (at2 rows S[i] c : Int)] ∈ L.map (fun p => p.2)
      · rw [l1 hin]
        refine ⟨_, L, e2.mut (.inl hD) hgD, hgD, upd_same, fun r hr => ?_, fun s hs => ?_, by omega⟩
        · obtain ⟨s, z0, z1, z2⟩ := h1 r hr
          exact ⟨s, z0, z1, same_t gup z2⟩
        · rcases List.mem_append.mp hs with hs | hs
          · exact h2 s hs
          · rw [List.mem_singleton.mp hs]; exact hin
      · have lp := l2 hin
        refine ⟨_, L', e2.mut (.inl hD) hgD, hgD, upd_same, fun r hr => ?_, fun s hs => ?_, ?_⟩
        · rcases List.mem_cons.mp (lp.mem_iff.mp hr) with rfl | hr
          · exact ⟨S[i], List.getElem_mem hi, rfl, hnew⟩
          · obtain ⟨s, z0, z1, z2⟩ := h1 r hr
            exact ⟨s, z0, z1, same_t gup z2⟩
        · refine (lp.map _).mem_iff.mpr ?_
          rw [List.map_cons]
          rcases List.mem_append.mp hs with hs | hs
          · exact List.mem_cons_of_mem _ (h2 s hs)
          · rw [List.mem_singleton.mp hs]; exact List.mem_cons_self
        · rw [lp.length_eq, List.length_cons]; omega
    · rintro H' ⟨G', L, e, hg, hL, h1, h2, h3⟩
      rw [List.length_map, List.take_length] at h2
      dsimp only [tNil]
      refine ⟨D, L, 2, 64, rfl, hL, fun r hr => ?_, by decide, fun r hr => ?_, fun L' t lp nd _ pw ht => ?_⟩
      · obtain ⟨s, _, z1, z2⟩ := h1 r hr
        rw [z1]; exact same_t e.gh z2
      · obtain ⟨s, hs, z1, z2⟩ := h1 r hr
        rw [z1]
        refine ⟨rfl, fun m hm => ?_⟩
        have b1 := at2_lt ok.m (hS s hs) ha
        have b2 := at2_lt ok.m (hS s hs) hc
        have := ok.n
        simp at hm
        rcases hm with rfl | rfl <;> omega
      · have h1' : ∀ r ∈ L', ∃ s ∈ S, r.2 = [(at2 rows s a : Int), (at2 rows s c : Int)] ∧ SqT K G' r.1 [vI (at2 rows s a), vI (at2 rows s c)] := fun r hr => h1 r (lp.mem_iff.mp hr)
        let toP : Addr × List Int → Nat × Nat := fun r => ((r.2.getD 0 0).toNat, (r.2.getD 1 0).toNat)
        have hto : ∀ r s, r.2 = [(at2 rows s a : Int), (at2 rows s c : Int)] → toP r = (at2 rows s a, at2 rows s c) := fun r s z => by simp [toP, z]
        have hd : DpAll K G' (L'.map fun r => V.ref r.1) ((L'.map toP).map eP) := by
          refine dpA_of (by simp) fun i x d y1 y2 => ?_
          simp only [List.getElem?_map, Option.map_map] at y1 y2
          cases z : L'[i]? with
          | none => rw [z] at y1; cases y1
          | some r =>
            rw [z] at y1 y2
            simp only [Option.map_some, Option.some.injEq, Function.comp] at y1 y2
            obtain ⟨s, _, z1, z2⟩ := h1' r (List.mem_of_getElem? z)
            rw [← y1, ← y2, hto r s z1]
            exact sqT_pair z2
        have hsr : SrtP (L'.map toP) := by
          have nd2 : L'.Pairwise fun q r => q.2 ≠ r.2 := List.pairwise_map.mp nd
          refine List.pairwise_map.mpr ((List.Pairwise.and_mem.mp (pw.and nd2)).imp fun {q r} z => ?_)
          obtain ⟨zq, zr, z1, z2⟩ := z
          obtain ⟨s, hs1, y1, _⟩ := h1' q zq
          obtain ⟨s', hs2, y2, _⟩ := h1' r zr
          have b1 := at2_lt ok.m (hS s hs1) ha
          have b2 := at2_lt ok.m (hS s hs1) hc
          have b3 := at2_lt ok.m (hS s' hs2) ha
          have b4 := at2_lt ok.m (hS s' hs2) hc
          have := ok.n
          rw [hto q s y1, hto r s' y2]
          rw [y1, y2] at z1 z2
          simp only [TS.code, List.length_cons, List.length_nil, Int.pow_succ, Int.pow_zero] at z1
          have z2 : ¬ (at2 rows s a = at2 rows s' a ∧ at2 rows s c = at2 rows s' c) := fun z => z2 (by rw [z.1, z.2])
          show _ < _ ∨ (_ = _ ∧ _ < _)
          simp only
          omega
        have hmem : L'.map toP = openF rows S a c := by
          refine srtP_uniq hsr (openF_srt S a c) fun x => ?_
          rw [mem_openF ok.m hS ha hc]
          constructor
          · intro hx
            obtain ⟨r, hr, rfl⟩ := List.mem_map.mp hx
            obtain ⟨s, hs1, y1, _⟩ := h1' r hr
            exact ⟨s, hs1, hto r s y1⟩
          · rintro ⟨s, hs1, rfl⟩
            obtain ⟨r, hr, z⟩ := List.mem_map.mp (h2 s hs1)
            exact List.mem_map.mpr ⟨r, lp.mem_iff.mpr hr, hto r s z⟩
        rw [hmem] at hd
        have e2 := e.new (o := .lst (L'.map fun q => V.ref q.1)) ht
        refine rd_tupOf (ds := (openF rows S a c).map eP) ⟨t, _, rfl, upd_same, dpA_up (fun b o hb => by rw [upd_ne (ne_of_none hb (e.gh.free ht))]; exact hb) hd⟩ e2.gh fun t2 G4 H4 e4 d4 => q _ _ _ (e2.trans e4) d4
end
end K78

/-! text F10 -/
set_option Elab.async false
set_option linter.all false
set_option maxRecDepth 100000
set_option maxHeartbeats 4000000
namespace K78
open PySem PySem.Spec PyProof.Rows L2
theorem walk_zipG {K : PySem.W.Frag} {t : Bool} {a b : Addr} {xs ys : List V} {n : Nat} (h1 : xs.length = n) (h2 : ys.length = n) : Walk (ItZ K t a b) n (fun H => sqB K t H a xs ∧ sqB K t H b ys) (YPair (fun i => xs[i]?) (fun i => ys[i]?)) := by
  refine ⟨fun i H hi q => ⟨xs, ys, xs[i]'(by omega), ys[i]'(by omega), q.1, q.2, by simp [show i < xs.length by omega], by simp [show i < ys.length by omega]⟩, fun H q => ⟨xs, ys, q.1, q.2, h1, h2⟩, fun i H v H' hi q y => ?_⟩
  obtain ⟨T, x, y, e1, e2, e3, e4, e5⟩ := y
  exact ⟨T, x, y, e1, e2, e3, e4 xs q.1, e5 ys q.2⟩
theorem tYes_of {σ : L2.St} {H : Hp} {Q : Bool → Hp → Prop} (h : Q true H) : tYes σ H Q := h
/-- an inner clause: its own turns, the list goes on -/
theorem lcIn_it {J : It} {n : Nat} {Gd : Hp → Prop} {Y : Nat → Hp → V → Hp → Prop} (w : Walk J n Gd Y) {g : TG} {tt : TT} {te : TE} {vs : List Nat} {σ : L2.St} {H0 : Hp} {D : Addr} {Qd : Hp → Prop} (Pv : Nat → Hp → Prop) (h0 : Pv 0 H0) (hG : ∀ i H, i ≤ n → Pv i H → Gd H)
    (hs : ∀ i x H H', i < n → Pv i H → Y i H x H' → g x (wipe σ vs) H' fun σ2 H2 => wipe σ2 vs = wipe σ vs ∧ tt σ2 H2 fun b H3 =>
      if b = true then te σ2 H3 fun y H4 => ∃ acc, H4 D = some (.lst acc) ∧ acc.length < sizeLine ∧ Pv (i + 1) (upd H4 D (.lst (acc ++ [y]))) else Pv (i + 1) H3) (hd : ∀ H, Pv n H → Qd H) :
    ∃ W : Nat → Nat → Hp → Prop, (∃ m, W 0 m H0) ∧ ∀ i m H, W i m H →
      (J.stop i H ∧ Qd H) ∨ (J.go i H ∧ ∃ Nx : Hp → Prop, (∀ H', Nx H' → ∃ m', m' < m ∧ W (i + 1) m' H') ∧ ∀ x H', J.yld i H x H' → g x (wipe σ vs) H' fun σ2 H2 => wipe σ2 vs = wipe σ vs ∧ tt σ2 H2 fun b H3 =>
        if b = true then te σ2 H3 fun y H4 => ∃ acc, H4 D = some (.lst acc) ∧ acc.length < sizeLine ∧ Nx (upd H4 D (.lst (acc ++ [y]))) else Nx H3) := by
  refine ⟨fun i m H => m = n - i ∧ i ≤ n ∧ Pv i H, ⟨n, by simp, Nat.zero_le _, h0⟩, ?_⟩
  rintro i m H ⟨rfl, hi, p⟩
  have q := hG i H hi p
  by_cases hlt : i < n
  · exact .inr ⟨w.goes i H hlt q, Pv (i + 1), fun H' p' => ⟨n - (i + 1), by omega, rfl, hlt, p'⟩, fun x H' y => hs i x H H' hlt p (w.yields i H x H' hlt q y)⟩
  · have e : i = n := by omega
    subst e
    exact .inl ⟨w.stops H q, hd H p⟩
theorem lc2_it {J : It} {n : Nat} {Gd : Hp → Prop} {Y : Nat → Hp → V → Hp → Prop} (w : Walk J n Gd Y) {g g1 : TG} {tt tt1 : TT} {wi1 : TI} {te : TE} {vs vs1 : List Nat} {σ : L2.St} {H0 : Hp} {D : Addr} {Qd : Hp → Prop} (Pv : Nat → Hp → Prop) (h0 : Pv 0 H0) (hG : ∀ i H, i ≤ n → Pv i H → Gd H)
    (hs : ∀ i x H H', i < n → Pv i H → Y i H x H' → g x (wipe σ vs) H' fun σ2 H2 => wipe σ2 vs = wipe σ vs ∧ tt σ2 H2 fun b H3 =>
      if b = true then wi1 σ2 H3 fun J1 H4 => ∃ W1 : Nat → Nat → Hp → Prop, (∃ m, W1 0 m H4) ∧ ∀ j k H, W1 j k H →
      (J1.stop j H ∧ Pv (i + 1) H) ∨ (J1.go j H ∧ ∃ Nx1 : Hp → Prop, (∀ H', Nx1 H' → ∃ k', k' < k ∧ W1 (j + 1) k' H') ∧ ∀ x H', J1.yld j H x H' → g1 x (wipe σ2 vs1) H' fun σ3 H5 => wipe σ3 vs1 = wipe σ2 vs1 ∧ tt1 σ3 H5 fun b H6 =>
        if b = true then te σ3 H6 fun y H7 => ∃ acc, H7 D = some (.lst acc) ∧ acc.length < sizeLine ∧ Nx1 (upd H7 D (.lst (acc ++ [y]))) else Nx1 H6) else Pv (i + 1) H3) (hd : ∀ H, Pv n H → Qd H) :
    ∃ W : Nat → Nat → Hp → Prop, (∃ m, W 0 m H0) ∧ ∀ i m H, W i m H →
      (J.stop i H ∧ Qd H) ∨ (J.go i H ∧ ∃ Nx : Hp → Prop, (∀ H', Nx H' → ∃ m', m' < m ∧ W (i + 1) m' H') ∧ ∀ x H', J.yld i H x H' → g x (wipe σ vs) H' fun σ2 H2 => wipe σ2 vs = wipe σ vs ∧ tt σ2 H2 fun b H3 =>
        if b = true then wi1 σ2 H3 fun J1 H4 => ∃ W1 : Nat → Nat → Hp → Prop, (∃ m, W1 0 m H4) ∧ ∀ j k H, W1 j k H →
      (J1.stop j H ∧ Nx H) ∨ (J1.go j H ∧ ∃ Nx1 : Hp → Prop, (∀ H', Nx1 H' → ∃ k', k' < k ∧ W1 (j + 1) k' H') ∧ ∀ x H', J1.yld j H x H' → g1 x (wipe σ2 vs1) H' fun σ3 H5 => wipe σ3 vs1 = wipe σ2 vs1 ∧ tt1 σ3 H5 fun b H6 =>
        if b = true then te σ3 H6 fun y H7 => ∃ acc, H7 D = some (.lst acc) ∧ acc.length < sizeLine ∧ Nx1 (upd H7 D (.lst (acc ++ [y]))) else Nx1 H6) else Nx H3) := by
  refine ⟨fun i m H => m = n - i ∧ i ≤ n ∧ Pv i H, ⟨n, by simp, Nat.zero_le _, h0⟩, ?_⟩
  rintro i m H ⟨rfl, hi, p⟩
  have q := hG i H hi p
  by_cases hlt : i < n
  · exact .inr ⟨w.goes i H hlt q, Pv (i + 1), fun H' p' => ⟨n - (i + 1), by omega, rfl, hlt, p'⟩, fun x H' y => hs i x H H' hlt p (w.yields i H x H' hlt q y)⟩
  · have e : i = n := by omega
    subst e
    exact .inl ⟨w.stops H q, hd H p⟩
section
variable {P : Program} {w : World} {K : PySem.W.Frag} {mg : Str → Option Value} {base : Heap} {C : Addr}
/-! ### carried -/
def spCarried (K : PySem.W.Frag) (C : Addr) : Sp := pureSp fun G vs Post => ∃ v u k rows l, vs = [v, u] ∧ Mac K C G v k rows ∧ OkS k rows ∧ Dp K G u (ePs l) ∧ (∀ q ∈ l, q.1 < rows.length ∧ q.2 < rows.length) ∧ Post = fun G' u => Dp K G' u (ePs (carrF k rows l))
def addP (L : List (Nat × Nat)) (x : Nat × Nat) : List (Nat × Nat) := if x ∈ L then L else L ++ [x]
theorem mem_addP {L : List (Nat × Nat)} {x y : Nat × Nat} : y ∈ addP L x ↔ y = x ∨ y ∈ L := by
  unfold addP
  split
  · next h => exact ⟨.inr, fun q => q.elim (fun e => by rw [e]; exact h) id⟩
  · rw [List.mem_append, List.mem_singleton, or_comm]
theorem nodup_addP {L : List (Nat × Nat)} {x : Nat × Nat} (h : L.Nodup) : (addP L x).Nodup := by
  unfold addP
  split
  · exact h
  · next z =>
    rw [List.nodup_append]
    exact ⟨h, by simp, fun a ha b hb e => z (by rw [List.mem_singleton.mp hb] at e; rw [← e]; exact ha)⟩
theorem ks_addP {kvs : List (NestedKey × V)} {L : List (Nat × Nat)} {x : Nat × Nat} {v : V} (h : Ks eP kvs L) : Ks eP (putK kvs (toK (eP x)) v) (addP L x) := by
  unfold addP
  split
  · next z => exact h.put_old kPair z
  · next z => exact h.put_new kPair z
theorem sc_carried : FnScope ["machine", "pairs", "found", "one", "other", "pair"] ["machine", "pairs"] (defScope s_carried) := ⟨rfl, rfl, rfl, by decide +kernel, rfl, by decide +kernel, by decide +kernel⟩
theorem ok_carried (T : Txt K mg C) (F : HasD K mg "carried" s_carried) : Def P w K mg base "carried" 1 ["machine", "pairs"] (spCarried K C) := by
  refine mkDef F sc_carried (fun _ _ _ _ _ _ us hl => match us, hl with | [_, _], _ => rfl) (fun vs H Q E h => ?_) fun f cdv A outer s H vs Q E hr h => ?_
  · obtain ⟨G, Post, _, ⟨v, u, k, rows, l, rfl, _⟩, _⟩ := h
    rfl
  · obtain ⟨G, Post, gh, ⟨v, u, k, rows, l, rfl, hm, ok, hu, hlt, rfl⟩, q⟩ := h
    refine ⟨_, (pss_cons (ps_set (i := 2) sc_carried.nd rfl (by first | exact Or.inl rfl | exact Or.inr rfl) (dnewN P w K)) (pss_cons (ps_for PassesOwn.never rfl (piT K (pv 1)) (pgT K (n := 2) (pgs_cons (pg_name (i := 3) sc_carried.nd rfl (by first | exact Or.inl rfl | exact Or.inr rfl)) (pgs_cons (pg_name (i := 4) sc_carried.nd rfl (by first | exact Or.inl rfl | exact Or.inr rfl)) pgs_nil))) (pss_one (ps_for PassesOwn.never rfl (pi_zipG K true (by rfl) T.f_zip (pa_cons (pe_ix (ixT K) (pf K (pv 0)) (pv 3) (fun _ _ => rfl)) (pa_cons (pe_ix (ixT K) (pf K (pv 0)) (pv 4) (fun _ _ => rfl)) pa_nil))) (pg_name (i := 5) sc_carried.nd rfl (by first | exact Or.inl rfl | exact Or.inr rfl)) (pss_one (dputN P w K (hu9 hr) (pv 2) (pv 5) pe_bl))))) (pss_one (ps_ret (pe_callTy (tupOf K) (by rfl) T.f_tuple (by decide +kernel) (pa_cons (pe_callB (sortN P w K (hu64 hr)) (by rfl) T.f_sorted (by decide +kernel) (pa_cons (pv 2) pa_nil)) pa_nil)))))), ?_⟩
    obtain ⟨p, dx, st, rfl, hp, hst⟩ := hm
    obtain ⟨la, lx, rfl, hl1, hl2⟩ := dp_tuple hu
    have hll := dpA_len hl2
    rw [List.length_map] at hll
    have few : ∀ {fk : List (Nat × Nat)}, fk.Nodup → (∀ x ∈ fk, x.1 < rows.length ∧ x.2 < rows.length) → fk.length ≤ 1600 := fun nd hb => by
      have h1 := nodup_le nd (m := pairsAll 40) fun x hx => mem_pairsAll.mpr (by have := hb x hx; have := ok.n; omega)
      have h2 : (pairsAll 40).length = 1600 := by decide
      omega
    refine fun D hD hDat => ?_
    have e0 := (Ext.refl (X := []) gh).newM (o := DN P w D []) hD
    have D0 := hDat G
    generalize upd H D (DN P w D []) = H1 at e0 D0
    refine ⟨_, rfl, la, rfl, ⟨_, same_t e0.gh hl1⟩, for_it (walk_tup (K := K) (a := la) (xs := lx)) (fun i σ H' => ∃ G' kvs fk v3 v4 v5, Ext [] G H G' H' ∧ G' D = none ∧ DAt P w K G' H' D kvs ∧ Ks eP kvs fk ∧ fk.Nodup ∧ (∀ x, x ∈ fk ↔ ∃ q ∈ l.take i, ∃ c < k, x = (at2 rows q.1 c, at2 rows q.2 c)) ∧
        σ = [some (.ref p), some (.ref la), some (.ref D), v3, v4, v5])
      ⟨G, [], [], none, none, none, e0, gh.free hD, D0, rfl, by simp, fun x => by simp, rfl⟩ (fun i σ H' _ ⟨G', _, _, _, _, _, e, _⟩ => same_t (e.gg.trans e.gh) hl1) ?_ ?_⟩
    · rintro i x σ H2 H3 hi ⟨G', kvs, fk, v3, v4, v5, e, gD, DD, hk, nd, hm, rfl⟩ ⟨rfl, hx⟩
      have hil : i < l.length := by rw [← hll]; exact hi
      obtain ⟨d, hd, hx2⟩ := dpA_at' hl2 hx
      obtain rfl : d = eP l[i] := by simp [hil] at hd; exact hd.symm
      obtain ⟨xa, xx, rfl, hx3, hx4⟩ := dp_tuple hx2
      obtain rfl : xx = [vI l[i].1, vI l[i].2] := by
        cases hx4 with
        | cons h1 h2 =>
          cases h2 with
          | cons h3 h4 => cases h4; rw [dp_int h1, dp_int h3]
      have hb := hlt _ (List.getElem_mem hil)
      refine ⟨xa, _, rfl, same_t (e.gg.trans e.gh) hx3, rfl, _, _, rfl, _, _, rfl, rfl, ?_⟩
      have hr1 := ok.m.rl _ (List.getElem_mem hb.1)
      have hr2 := ok.m.rl _ (List.getElem_mem hb.2)
      refine ⟨_, rfl, p, C, dx, _, _, rfl, (e.gg.trans e.gh) _ _ hp, T.cl, T.nT, lk_steps, _, rfl, ?_⟩
      refine rd_row (dp_up e.gg hst) e.gh hb.1 fun u1 hu1 => ?_
      refine ⟨_, rfl, p, C, dx, _, _, rfl, (e.gg.trans e.gh) _ _ hp, T.cl, T.nT, lk_steps, _, rfl, ?_⟩
      refine rd_row (dp_up e.gg hst) e.gh hb.2 fun u2 hu2 => ?_
      obtain ⟨a1, rfl, hs1⟩ := dp_row hu1
      obtain ⟨a2, rfl, hs2⟩ := dp_row hu2
      refine ⟨a1, a2, _, _, rfl, same_t e.gh hs1, same_t e.gh hs2, for_it (walk_zipG (K := K) (t := true) (n := k) (xs := rows[l[i].1].map vI) (ys := rows[l[i].2].map vI) (by simp [hr1]) (by simp [hr2])) (fun c σ H' => ∃ G'' kvs fk v5, Ext [] G H G'' H' ∧ L2.Same G' G'' ∧ G'' D = none ∧ DAt P w K G'' H' D kvs ∧ Ks eP kvs fk ∧ fk.Nodup ∧ (∀ x, x ∈ fk ↔ (∃ q ∈ l.take i, ∃ c < k, x = (at2 rows q.1 c, at2 rows q.2 c)) ∨ ∃ d < c, x = (at2 rows l[i].1 d, at2 rows l[i].2 d)) ∧
          σ = [some (.ref p), some (.ref la), some (.ref D), some (vI l[i].1), some (vI l[i].2), v5])
        ⟨G', kvs, fk, v5, e, L2.Same.refl _, gD, DD, hk, nd, fun x => by simp [hm x], rfl⟩ (fun c σ H' _ ⟨G'', _, _, _, e2, g2, _⟩ => ⟨same_t (g2.trans e2.gh) hs1, same_t (g2.trans e2.gh) hs2⟩) ?_ ?_⟩
      · rintro c x σ H4 H5 hc ⟨G'', kvs, fk, v5, e2, g2, gD, DD, hk, nd, hm, rfl⟩ ⟨T1, y1, y2, rfl, hT, rfl, hy1, hy2⟩
        have c1 : c < rows[l[i].1].length := by omega
        have c2 : c < rows[l[i].2].length := by omega
        obtain rfl : y1 = vI (at2 rows l[i].1 c) := by
          rw [at2_eq ok.m hb.1 c1]
          simp [c1] at hy1; exact hy1.symm
        obtain rfl : y2 = vI (at2 rows l[i].2 c) := by
          rw [at2_eq ok.m hb.2 c2]
          simp [c2] at hy2; exact hy2.symm
        have e3 := e2.new (o := .tup [vI (at2 rows l[i].1 c), vI (at2 rows l[i].2 c)]) hT
        have hne : D ≠ T1 := fun z => by
          obtain ⟨o, ho⟩ := dat_some DD
          rw [z, hT] at ho; cases ho
        have gup : L2.Same G'' (upd G'' T1 (.tup [vI (at2 rows l[i].1 c), vI (at2 rows l[i].2 c)])) := fun b o hb => by rw [upd_ne (ne_of_none hb (e2.gh.free hT))]; exact hb
        have gD3 : upd G'' T1 (.tup [vI (at2 rows l[i].1 c), vI (at2 rows l[i].2 c)]) D = none := by rw [upd_ne hne]; exact gD
        have hfew := few nd fun x hx => by
          rcases (hm x).mp hx with ⟨q, hq, d, hd, rfl⟩ | ⟨d, hd, rfl⟩
          · have := hlt q (List.mem_of_mem_take hq)
            exact ⟨at2_lt ok.m this.1 hd, at2_lt ok.m this.2 hd⟩
          · exact ⟨at2_lt ok.m hb.1 (by omega), at2_lt ok.m hb.2 (by omega)⟩
        refine ⟨_, rfl, _, rfl, D, _, kvs, toK (eP (at2 rows l[i].1 c, at2 rows l[i].2 c)), rfl, e3.gh, gD3, dat_up DD gup (upd_ne hne), kd_pair (sqT_pair (.of upd_same)), by rw [hk.length]; exact Nat.lt_of_le_of_lt hfew (by decide), fun o D4 => ?_⟩
        refine ⟨_, _, addP fk (at2 rows l[i].1 c, at2 rows l[i].2 c), _, e3.mut (.inl hD) gD3, g2.trans gup, gD3, D4, ks_addP hk, nodup_addP nd, fun x => ?_, rfl⟩
        rw [mem_addP, hm]
        constructor
        · rintro (rfl | h | ⟨d, hd, h⟩)
          · exact .inr ⟨c, Nat.lt_succ_self _, rfl⟩
          · exact .inl h
          · exact .inr ⟨d, Nat.lt_succ_of_lt hd, h⟩
        · rintro (h | ⟨d, hd, h⟩)
          · exact .inr (.inl h)
          · by_cases z : d = c
            · rw [z] at h; exact .inl h
            · exact .inr (.inr ⟨d, by omega, h⟩)
      · rintro σ H4 ⟨G'', kvs, fk, v5, e2, g2, gD, DD, hk, nd, hm, rfl⟩
        refine ⟨G'', kvs, fk, _, _, _, e2, gD, DD, hk, nd, fun x => ?_, rfl⟩
        rw [hm, List.take_succ_eq_append_getElem hil]
        constructor
        · rintro (⟨q, hq, h⟩ | h)
          · exact ⟨q, List.mem_append_left _ hq, h⟩
          · exact ⟨l[i], List.mem_append_right _ (by simp), h⟩
        · rintro ⟨q, hq, h⟩
          rcases List.mem_append.mp hq with hq | hq
          · exact .inl ⟨q, hq, h⟩
          · rw [List.mem_singleton.mp hq] at h; exact .inr h
    · rintro σ H2 ⟨G', kvs, fk, v3, v4, v5, e, gD, DD, hk, nd, hm, rfl⟩
      rw [hll, List.take_length] at hm
      have hfew := few nd fun x hx => by
        obtain ⟨q, hq, d, hd, rfl⟩ := (hm x).mp hx
        have := hlt q hq
        exact ⟨at2_lt ok.m this.1 hd, at2_lt ok.m this.2 hd⟩
      refine ⟨_, rfl, _, eP, fk, D, G', kvs, rfl, e.gh, DD, hk, fun b _ => ok_pair b, ok_srtP (Nat.le_trans hfew (by decide)), fun t xs ht hxs => ?_⟩
      have es : srt eP fk = carrF k rows l := srtP_uniq (srtP_of nd) (carrF_srt l) fun x => by rw [(srt_perm eP fk).mem_iff, hm, mem_carrF ok.m hlt]
      rw [es] at hxs
      have e2 := e.new (o := .lst xs) ht
      refine rd_tupOf (ds := (carrF k rows l).map eP) ⟨t, _, rfl, upd_same, dpA_up (fun b o hb => by rw [upd_ne (ne_of_none hb (e.gh.free ht))]; exact hb) hxs⟩ e2.gh fun t2 G4 H4 e4 d4 => q _ _ _ (e2.trans e4) d4
/-! ### unlike_commands -/
def unlikeF (k : Nat) : List (Nat × Nat) := (List.range k).flatMap fun c => (List.range c).map fun a => (a, c)
theorem mem_unlike {k : Nat} {p : Nat × Nat} : p ∈ unlikeF k ↔ p.1 < p.2 ∧ p.2 < k := by
  unfold unlikeF
  rw [List.mem_flatMap]
  constructor
  · rintro ⟨c, hc, h⟩
    obtain ⟨a, ha, rfl⟩ := List.mem_map.mp h
    exact ⟨List.mem_range.mp ha, List.mem_range.mp hc⟩
  · rintro ⟨h1, h2⟩
    exact ⟨p.2, List.mem_range.mpr h2, List.mem_map.mpr ⟨p.1, List.mem_range.mpr h1, rfl⟩⟩
def spUnlike (K : PySem.W.Frag) (C : Addr) : Sp := pureSp fun G vs Post => ∃ v k rows, vs = [v] ∧ Mac K C G v k rows ∧ k ≤ 40 ∧ Post = fun G' u => Ld K G' u ((unlikeF k).map eP)
theorem sc_unlike_commands : FnScope ["machine", "c", "a"] ["machine"] (defScope s_unlike_commands) := ⟨rfl, rfl, rfl, by decide +kernel, rfl, by decide +kernel, by decide +kernel⟩
theorem ok_unlike_commands (T : Txt K mg C) (F : HasD K mg "unlike_commands" s_unlike_commands) : Def P w K mg base "unlike_commands" 1 ["machine"] (spUnlike K C) := by
  refine mkDef F sc_unlike_commands (fun _ _ _ _ _ _ us hl => match us, hl with | [_], _ => rfl) (fun vs H Q E h => ?_) fun f cdv A outer s H vs Q E hr h => ?_
  · obtain ⟨G, Post, _, ⟨v, k, rows, rfl, _⟩, _⟩ := h
    rfl
  · obtain ⟨G, Post, gh, ⟨v, k, rows, rfl, hm, hk, rfl⟩, q⟩ := h
    refine ⟨_, (pss_one (ps_ret (pe_lc2 (vs1 := [2]) (own := [("c", 1), ("a", 2)]) rfl sc_unlike_commands.nd (pi_range1 (by rfl) T.f_range (pa_cons (pf K (pv 0)) pa_nil)) (blkOk_by (own := [("c", 1), ("a", 2)]) (by kernel_rfl)) (by decide) (fun _ _ _ _ _ => (pg_name (i := 1) sc_unlike_commands.nd rfl (by first | exact Or.inl rfl | exact Or.inr rfl))) (fun _ _ _ _ _ => pts_nil) (fun _ _ _ _ _ => (pi_range1 (by rfl) T.f_range (pa_cons (pv 1) pa_nil))) (fun _ _ _ _ _ => (pg_name (i := 2) sc_unlike_commands.nd rfl (by first | exact Or.inl rfl | exact Or.inr rfl))) (fun _ _ _ _ _ => pts_nil) (fun _ _ _ _ _ => (pe_tup (pa_cons (pv 2) (pa_cons (pv 1) pa_nil))))))), ?_⟩
    obtain ⟨p, dx, st, rfl, hp, hst⟩ := hm
    have huf : ∀ i, unlikeF (i + 1) = unlikeF i ++ (List.range i).map fun a => (a, i) := fun i => by
      unfold unlikeF
      rw [List.range_succ, List.flatMap_append]; simp
    have hul : ∀ i, i ≤ k → (unlikeF i).length ≤ i * 40 := fun i hi => by
      induction i with
      | zero => simp [unlikeF]
      | succ i ih =>
        have := ih (by omega)
        rw [huf, List.length_append, List.length_map, List.length_range, Nat.succ_mul]
        omega
    refine ⟨_, rfl, p, C, dx, _, _, rfl, gh _ _ hp, T.cl, T.nC, lk_commands, (k : Int), rfl, by omega, by omega, fun D hD => ?_⟩
    rw [Int.toNat_natCast]
    refine lc2_it walk_range (fun i H' => ∃ G' acc, Ext [] G H G' H' ∧ G' D = none ∧ H' D = some (.lst acc) ∧ DpAll K G' acc ((unlikeF i).map eP))
      ⟨G, [], (Ext.refl gh).newM hD, gh.free hD, upd_same, .nil⟩ (fun _ _ _ _ => trivial) ?_ ?_
    · rintro i x H1 H2 hi ⟨G', acc, e, hg, h1, h2⟩ ⟨rfl, rfl⟩
      have hz : (fun i : Nat => V.int (0 + (i : Int))) i = vI i := by simp
      rw [hz]
      refine ⟨rfl, tYes_of (iteT ⟨_, rfl, (i : Int), rfl, by omega, by omega, ?_⟩)⟩
      rw [Int.toNat_natCast]
      refine lcIn_it (Qd := fun H' => ∃ G' acc, Ext [] G H G' H' ∧ G' D = none ∧ H' D = some (.lst acc) ∧ DpAll K G' acc ((unlikeF (i + 1)).map eP)) (g := gName 2) (tt := tYes) (walk_range (lo := 0) (n := i)) (fun j H' => ∃ G' acc, Ext [] G H G' H' ∧ G' D = none ∧ H' D = some (.lst acc) ∧ DpAll K G' acc ((unlikeF i ++ (List.range j).map fun a => (a, i)).map eP))
        ⟨G', acc, e, hg, h1, by simpa using h2⟩ (fun _ _ _ _ => trivial) ?_ ?_
      · rintro j x H3 H4 hj ⟨G', acc, e, hg, h1, h2⟩ ⟨rfl, rfl⟩
        have hz : (fun i : Nat => V.int (0 + (i : Int))) j = vI j := by simp
        rw [hz]
        refine ⟨rfl, tYes_of (iteT ⟨_, rfl, _, rfl, by show 2 ≤ sizeLine; decide, fun t ht => ?_⟩)⟩
        have hne : D ≠ t := fun z => by rw [z] at h1; rw [h1] at ht; cases ht
        have e2 := e.new (o := .tup [vI j, vI i]) ht
        have gup : L2.Same G' (upd G' t (.tup [vI j, vI i])) := fun b o hb => by rw [upd_ne (ne_of_none hb (e.gh.free ht))]; exact hb
        have gD : upd G' t (.tup [vI j, vI i]) D = none := by rw [upd_ne hne]; exact hg
        refine ⟨acc, by rw [upd_ne hne]; exact h1, ?_, _, acc ++ [.ref t], e2.mut (.inl hD) gD, gD, upd_same, ?_⟩
        · have := dpA_len h2
          simp only [List.length_map, List.length_append, List.length_range] at this
          have := hul i (by omega)
          have : i * 40 ≤ 40 * 40 := Nat.mul_le_mul_right _ (by omega)
          exact Nat.lt_of_le_of_lt (show acc.length ≤ 2000 by omega) (by decide)
        · rw [show (unlikeF i ++ (List.range (j + 1)).map fun a => (a, i)).map eP = (unlikeF i ++ (List.range j).map fun a => (a, i)).map eP ++ [eP (j, i)] by rw [List.range_succ]; simp]
          exact dpA_app (dpA_up gup h2) (.cons (sqT_pair (.of upd_same)) .nil)
      · rintro H3 ⟨G', acc, e, hg, h1, h2⟩
        exact ⟨G', acc, e, hg, h1, by rw [huf]; exact h2⟩
    · rintro H1 ⟨G', acc, e, hg, h1, h2⟩
      exact q _ _ _ (e.pub hD hg h1) ⟨D, acc, rfl, upd_same, dpA_up (fun b o hb => by rw [upd_ne (ne_of_none hb hg)]; exact hb) h2⟩
end
end K78

/-! text F11 -/
set_option Elab.async false
set_option linter.all false
set_option maxRecDepth 100000
set_option maxHeartbeats 4000000
namespace K78
open PySem PySem.Spec PyProof.Rows L2

/-! ### pairs after, plain -/
def seqF (k : Nat) (rows : List (List Nat)) (S : List Nat) (a c : Nat) : Nat → List (Nat × Nat)
  | 0 => openF rows S a c
  | j + 1 => carrF k rows (seqF k rows S a c j)
section
variable {k : Nat} {rows : List (List Nat)}
theorem seqF_lt {S : List Nat} {a c : Nat} (j : Nat) : ∀ q ∈ seqF k rows S a c j, q.1 < rows.length ∧ q.2 < rows.length := by
  cases j with
  | zero => exact openF_lt
  | succ j => exact carrF_lt
theorem seqF_srt {S : List Nat} {a c : Nat} (j : Nat) : SrtP (seqF k rows S a c j) := by
  cases j with
  | zero => exact openF_srt _ _ _
  | succ j => exact carrF_srt _
end
/-- a sequence made step by step that comes back goes round -/
theorem iter_round {α : Type} {f : Nat → α} {F : α → α} (hf : ∀ j, f (j + 1) = F (f j)) {s r : Nat} (hs : f r = f s) (hlt : s < r) : ∀ {g : Nat}, s ≤ g → f g = f (s + (g - s) % (r - s)) := by
  have shift : ∀ n, f (r + n) = f (s + n) := by
    intro n
    induction n with
    | zero => exact hs
    | succ n ih => rw [← Nat.add_assoc, ← Nat.add_assoc, hf, hf, ih]
  have mult : ∀ m n, f (s + n + m * (r - s)) = f (s + n) := by
    intro m
    induction m with
    | zero => intro n; simp
    | succ m ih =>
      intro n
      rw [Nat.succ_mul, show s + n + (m * (r - s) + (r - s)) = r + (n + m * (r - s)) by omega, shift, ← Nat.add_assoc, ih]
  intro g hg
  have e : g = s + (g - s) % (r - s) + (g - s) / (r - s) * (r - s) := by
    have := Nat.mod_add_div (g - s) (r - s)
    rw [Nat.mul_comm] at this
    omega
  conv => lhs; rw [e]
  exact mult _ _
section
variable {P : Program} {w : World} {K : PySem.W.Frag} {mg : Str → Option Value} {base : Heap} {C : Addr}
def spPairsAfter (K : PySem.W.Frag) (C : Addr) : Sp := pureSp fun G vs Post => ∃ v u k rows S a c g, vs = [v, u, vI a, vI c, vI g] ∧ Mac K C G v k rows ∧ OkS k rows ∧ Dp K G u (eR S) ∧ (∀ s ∈ S, s < rows.length) ∧ S.length ≤ 40 ∧ a < k ∧ c < k ∧ g ≤ 10000 ∧ Post = fun G' u => Dp K G' u (ePs (seqF k rows S a c g))
/-- places: each thing at its index -/
def plKv {β : Type} (enc : β → PyData) (l : List β) : List (NestedKey × V) := l.zipIdx.map fun p => (toK (enc p.1), vI p.2)
theorem plKv_ks {β : Type} {enc : β → PyData} (l : List β) : Ks enc (plKv enc l) l := by
  unfold Ks plKv
  rw [List.map_map]
  have gen : ∀ (l : List β) (n : Nat), (l.zipIdx n).map ((fun x : NestedKey × V => x.1) ∘ fun p => (toK (enc p.1), vI p.2)) = l.map fun b => toK (enc b) := by
    intro l
    induction l with
    | nil => intro n; rfl
    | cons a l ih => intro n; simp only [List.zipIdx_cons, List.map_cons, ih (n + 1)]; rfl
  exact gen l 0
theorem plKv_snoc {β : Type} {enc : β → PyData} (l : List β) (b : β) : plKv enc (l ++ [b]) = plKv enc l ++ [(toK (enc b), vI l.length)] := by
  unfold plKv
  rw [List.zipIdx_append, List.map_append]
  simp
theorem plKv_val {β : Type} {enc : β → PyData} (e : KEnc enc) {l : List β} {b : β} (h : b ∈ l) : ∃ j, l[j]? = some b ∧ valV (plKv enc l) (toK (enc b)) = some (vI j) := by
  have gen : ∀ (l : List β) (n : Nat), b ∈ l → ∃ j, l[j]? = some b ∧ valV ((l.zipIdx n).map fun p => (toK (enc p.1), vI p.2)) (toK (enc b)) = some (vI (n + j)) := by
    intro l
    induction l with
    | nil => intro n h; cases h
    | cons a l ih =>
      intro n h
      by_cases z : toK (enc a) = toK (enc b)
      · refine ⟨0, by rw [e.k_inj z]; rfl, ?_⟩
        rw [List.zipIdx_cons, List.map_cons, valV_pos z]; rfl
      · obtain ⟨j, h1, h2⟩ := ih (n + 1) ((List.mem_cons.mp h).resolve_left fun q => z (by rw [q]))
        refine ⟨j + 1, by simpa using h1, ?_⟩
        rw [List.zipIdx_cons, List.map_cons, valV_neg z, h2]
        congr 2
        omega
  obtain ⟨j, h1, h2⟩ := gen l 0 h
  exact ⟨j, h1, by rw [Nat.zero_add] at h2; exact h2⟩
theorem sc_pairs_after : FnScope ["machine", "states", "a", "c", "gap", "pairs", "rows", "places", "start"] ["machine", "states", "a", "c", "gap"] (defScope s_pairs_after) := ⟨rfl, rfl, rfl, by decide +kernel, rfl, by decide +kernel, by decide +kernel⟩
theorem ok_pairs_after (T : Txt K mg C) (F : HasD K mg "pairs_after" s_pairs_after) (d_opened : Def P w K mg base "opened" 1 ["machine", "states", "a", "c"] (spOpened K C)) (d_carried : Def P w K mg base "carried" 1 ["machine", "pairs"] (spCarried K C)) : Def P w K mg base "pairs_after" 2 ["machine", "states", "a", "c", "gap"] (spPairsAfter K C) := by
  refine mkDef F sc_pairs_after (fun _ _ _ _ _ _ us hl => match us, hl with | [_, _, _, _, _], _ => rfl) (fun vs H Q E h => ?_) fun f cdv A outer s H vs Q E hr h => ?_
  · obtain ⟨G, Post, _, ⟨v, u, k, rows, S, a, c, g, rfl, _⟩, _⟩ := h
    rfl
  · obtain ⟨G, Post, gh, ⟨v, u, k, rows, S, a, c, g, rfl, hm, ok, hu, hS, hSl, ha, hc, hg9, rfl⟩, q⟩ := h
    refine ⟨_, (pss_cons (ps_par3 (i := 5) (j := 6) (l := 7) rfl sc_pairs_after.nd rfl rfl rfl (by decide) (by decide) (by decide) rfl rfl rfl (pa_cons (pe_def d_opened (hr.mono (by decide)) (by rfl) (pa_cons (pv 0) (pa_cons (pv 1) (pa_cons (pv 2) (pa_cons (pv 3) pa_nil))))) (pa_cons (pe_lst pa_nil) (pa_cons (dnewN P w K) pa_nil))) (by rfl)) (pss_cons (ps_while PassesOwn.never (PW.pt (pw_and (pt_cmpR op_lt (pe_callB (lenS K) (by rfl) T.f_len (by decide +kernel) (pa_cons (pv 6) pa_nil)) (pv 4) (nomark _)) (pw_and1 (pt_cmpR (niN P w K (hu9 hr)) (pv 5) (pv 7) (by rfl))))) (pss_cons (dputN P w K (hu9 hr) (pv 7) (pv 5) (pe_callB (lenS K) (by rfl) T.f_len (by decide +kernel) (pa_cons (pv 6) pa_nil))) (pss_cons (ps_expr (pe_bm PySem.F.plainAttrs_list PySem.F.slot_list_append PySem.F.type_list_append mt_append (pv 6) (pa_cons (pv 5) pa_nil))) (pss_one (ps_set (i := 5) sc_pairs_after.nd rfl (by first | exact Or.inl rfl | exact Or.inr rfl) (pe_def d_carried (hr.mono (by decide)) (by rfl) (pa_cons (pv 0) (pa_cons (pv 5) pa_nil)))))))) (pss_cons (ps_if (pt_cmpR op_eq (pe_callB (lenS K) (by rfl) T.f_len (by decide +kernel) (pa_cons (pv 6) pa_nil)) (pv 4) (nomark _)) (pss_one (ps_ret (pv 5))) pss_nil) (pss_cons (ps_set (i := 8) sc_pairs_after.nd rfl (by first | exact Or.inl rfl | exact Or.inr rfl) (dgetN P w K (hu9 hr) (pv 7) (pv 5) (fun _ _ => rfl))) (pss_one (ps_ret (pe_ix (ixL K) (pv 6) (pe_op op_add (pv 8) (pe_op op_modN (pe_op op_sub (pv 4) (pv 8)) (pe_op op_sub (pe_callB (lenS K) (by rfl) T.f_len (by decide +kernel) (pa_cons (pv 6) pa_nil)) (pv 8)))) (fun _ _ => rfl)))))))), ?_⟩
    refine ⟨_, rfl, _, rfl, _, rfl, _, rfl, G, _, gh, ⟨v, u, k, rows, S, a, c, rfl, hm, ok, hu, hS, hSl, ha, hc, rfl⟩, fun u0 G0 H0 e0 d0 => ?_⟩
    have d0 : Dp K G0 u0 (ePs (openF rows S a c)) := d0
    refine ⟨by show 0 ≤ sizeLine; decide, fun l hl D hD hDat => ⟨_, _, _, rfl, ?_⟩⟩
    have hne : l ≠ D := fun z => by rw [z, upd_same] at hD; cases hD
    have hD0 : H0 D = none := by rw [upd_ne (Ne.symm hne)] at hD; exact hD
    have hlH : H l = none := e0.base hl
    have hDH : H D = none := e0.base hD0
    have e1 := (e0.newM (o := .lst []) hl).newM (o := DN P w D []) hD
    have D1 := hDat G0
    have l1 : upd (upd H0 l (.lst [])) D (DN P w D []) l = some (.lst []) := by rw [upd_ne hne, upd_same]
    generalize upd (upd H0 l (.lst [])) D (DN P w D []) = H1 at e1 D1 l1
    refine ⟨fun m σ H' => ∃ G' r xs pv v8, Ext [] G H G' H' ∧ G' l = none ∧ G' D = none ∧ H' l = some (.lst xs) ∧ DpAll K G' xs (((List.range r).map (seqF k rows S a c)).map ePs) ∧ DAt P w K G' H' D (plKv ePs ((List.range r).map (seqF k rows S a c))) ∧
        Dp K G' pv (ePs (seqF k rows S a c r)) ∧ r ≤ g ∧ m = g - r ∧ σ = [some v, some u, some (vI a), some (vI c), some (vI g), some pv, some (.ref l), some (.ref D), v8],
      ⟨g, G0, 0, [], u0, none, e1, e0.gh.free hl, e0.gh.free hD0, l1, .nil, D1, d0, Nat.zero_le _, rfl, rfl⟩, ?_⟩
    rintro m σ H2 ⟨G', r, xs, pv, v8, e, gl, gD, hx1, hx2, DD, hp, hr, rfl, rfl⟩
    have hxl := dpA_len hx2
    simp only [List.length_map, List.length_range] at hxl
    have hks := plKv_ks (enc := ePs) ((List.range r).map (seqF k rows S a c))
    have hval := hks.val_in kPairs (b := seqF k rows S a c r)
    have hm2 := mac_up e.gg hm
    refine ⟨_, rfl, l, xs, rfl, .inl (.of hx1), _, rfl, _, _, rfl, rfl, _, rfl, ?_⟩
    by_cases hrg : r < g
    · refine iteTb (decide_eq_true (by omega)) ⟨_, rfl, _, rfl, D, G', _, _, rfl, e.gh, DD, kd_pairs hp, _, rfl, ?_⟩
      by_cases hin : seqF k rows S a c r ∈ (List.range r).map (seqF k rows S a c)
      · refine iteFb (by rw [hval.mpr hin]; rfl) ?_
        refine ⟨_, rfl, l, xs, rfl, .inl (.of hx1), _, rfl, rfl, _, rfl, iteFb (dec_ne (by omega)) ?_⟩
        obtain ⟨j, hj, hv⟩ := plKv_val (enc := ePs) kPairs hin
        have hjr : j < r := by have := (List.getElem?_eq_some_iff.mp hj).1; simpa using this
        have hjs : seqF k rows S a c j = seqF k rows S a c r := by simpa [hjr] using hj
        refine ⟨_, rfl, _, rfl, D, G', _, _, _, rfl, e.gh, DD, kd_pairs hp, hv, ?_⟩
        refine ⟨_, rfl, _, rfl, _, rfl, _, rfl, _, _, rfl, rfl, _, rfl, l, xs, rfl, .inl (.of hx1), _, rfl, _, _, rfl, rfl, _, _, rfl, rfl, by omega, _, _, rfl, rfl, ?_⟩
        have ei : (j : Int) + Int.fmod ((g : Int) - (j : Int)) ((xs.length : Int) - (j : Int)) = ((j + (g - j) % (r - j) : Nat) : Int) := by
          rw [hxl]
          have h1 : (g : Int) - (j : Int) = ((g - j : Nat) : Int) := by omega
          have h2 : (r : Int) - (j : Int) = ((r - j : Nat) : Int) := by omega
          rw [h1, h2, Int.fmod_eq_emod_of_nonneg _ (by omega)]
          omega
        show rIxL K (.ref l) (.int ((j : Int) + Int.fmod ((g : Int) - (j : Int)) ((xs.length : Int) - (j : Int)))) H2 _
        rw [ei]
        have hlt : j + (g - j) % (r - j) < r := by
          have := Nat.mod_lt (g - j) (show r - j > 0 by omega)
          omega
        have e5 := e.pub hlH gl hx1
        have gup : L2.Same G' (upd G' l (.lst xs)) := fun b o hb => by rw [upd_ne (ne_of_none hb gl)]; exact hb
        refine rd_ixL (G := upd G' l (.lst xs)) (ds := ((List.range r).map (seqF k rows S a c)).map ePs) (.lst (.of upd_same) (dpA_up gup hx2)) e5.gh (d := ePs (seqF k rows S a c g)) ?_ fun u2 hu2 => q _ _ _ e5 hu2
        have := iter_round (f := seqF k rows S a c) (F := carrF k rows) (fun _ => rfl) hjs.symm hjr (g := g) (by omega)
        simp [hlt, ← this]
      · have hnone : (valV (plKv ePs ((List.range r).map (seqF k rows S a c))) (toK (ePs (seqF k rows S a c r)))).isSome = false := by
          cases z : (valV (plKv ePs ((List.range r).map (seqF k rows S a c))) (toK (ePs (seqF k rows S a c r)))).isSome with
          | false => rfl
          | true => exact absurd (hval.mp z) hin
        refine iteTb (by rw [hnone]; rfl) ⟨fun σ' H' => _, fun _ _ h => h, ?_⟩
        have hklen : (plKv ePs ((List.range r).map (seqF k rows S a c))).length = r := by rw [hks.length]; simp
        refine ⟨_, rfl, l, xs, rfl, .inl (.of hx1), _, rfl, _, rfl, D, G', _, _, rfl, e.gh, gD, DD, kd_pairs hp, by rw [hklen]; exact Nat.lt_of_le_of_lt (show r ≤ 10000 by omega) (by decide), fun o D3 => ?_⟩
        rw [put_new (by rw [hks, kPairs.mem]; exact hin), hxl] at D3
        have e3 := e.mut (o := o) (.inl hDH) gD
        have l3 : upd H2 D o l = some (.lst xs) := by rw [upd_ne hne]; exact hx1
        refine ⟨_, rfl, .inl ⟨rfl, _, .of l3⟩, _, rfl, l, xs, pv, rfl, rfl, l3, by rw [hxl]; exact Nat.lt_of_le_of_lt (show r ≤ 10000 by omega) (by decide), ?_⟩
        have e4 := e3.mut (o := .lst (xs ++ [pv])) (.inl hlH) gl
        have D4 : DAt P w K G' (upd (upd H2 D o) l (.lst (xs ++ [pv]))) D (plKv ePs ((List.range (r + 1)).map (seqF k rows S a c))) := by
          rw [List.range_succ, List.map_append, List.map_singleton, plKv_snoc, List.length_map, List.length_range]
          exact dat_up D3 (L2.Same.refl _) (upd_ne (Ne.symm hne))
        have l4 : upd (upd H2 D o) l (.lst (xs ++ [pv])) l = some (.lst (xs ++ [pv])) := upd_same
        generalize upd (upd H2 D o) l (.lst (xs ++ [pv])) = H4 at e4 D4 l4 ⊢
        refine ⟨_, rfl, _, rfl, G', _, e4.gh, ⟨v, pv, k, rows, seqF k rows S a c r, rfl, hm2, ok, hp, seqF_lt r, rfl⟩, fun u5 G5 H5 e5 d5 => ?_⟩
        obtain ⟨f1, f2⟩ := e5.keepM l4 gl (by simp)
        obtain ⟨zs, z1, _⟩ := D4.ex
        obtain ⟨f3, f4⟩ := e5.keepM z1 gD (by simp)
        refine ⟨g - (r + 1), by omega, G5, r + 1, _, _, _, e4.trans e5, f2, f4, f1, ?_, dat_up D4 e5.gg (by rw [f3, z1]), d5, hrg, rfl, rfl⟩
        rw [show ((List.range (r + 1)).map (seqF k rows S a c)).map ePs = ((List.range r).map (seqF k rows S a c)).map ePs ++ [ePs (seqF k rows S a c r)] by rw [List.range_succ]; simp]
        exact dpA_app (dpA_up e5.gg hx2) (.cons (dp_up e5.gg hp) .nil)
    · refine iteFb (decide_eq_false (by omega)) ?_
      have hrg : r = g := by omega
      subst hrg
      refine ⟨_, rfl, l, xs, rfl, .inl (.of hx1), _, rfl, rfl, _, rfl, iteTb (dec_eq (by omega)) ⟨_, rfl, ?_⟩⟩
      exact q _ _ _ e hp
/-! ### clashing -/
def clashF (rows : List (List Nat)) (cls : List Nat) (l : List (Nat × Nat)) (a c : Nat) : Bool := l.all fun q => decide (cls.getD (at2 rows q.1 c) 0 = cls.getD (at2 rows q.2 a) 0)
def spClashing (K : PySem.W.Frag) (C : Addr) : Sp := pureSp fun G vs Post => ∃ v u z k rows l cls a c, vs = [v, u, vI a, vI c, z] ∧ Mac K C G v k rows ∧ OkS k rows ∧ Dp K G u (ePs l) ∧ (∀ q ∈ l, q.1 < rows.length ∧ q.2 < rows.length) ∧ Dp K G z (eR cls) ∧ cls.length = rows.length ∧ a < k ∧ c < k ∧
  Post = fun G' u => if clashF rows cls l a c = true then u = .non else ∃ t, u = .ref t
theorem getD_eq {l : List Nat} {i : Nat} (h : i < l.length) : l.getD i 0 = l[i] := by simp [List.getD, h]
theorem sc_clashing : FnScope ["machine", "pairs", "a", "c", "classes", "one", "other"] ["machine", "pairs", "a", "c", "classes"] (defScope s_clashing) := ⟨rfl, rfl, rfl, by decide +kernel, rfl, by decide +kernel, by decide +kernel⟩
theorem ok_clashing (T : Txt K mg C) (F : HasD K mg "clashing" s_clashing) : Def P w K mg base "clashing" 1 ["machine", "pairs", "a", "c", "classes"] (spClashing K C) := by
  refine mkDef F sc_clashing (fun _ _ _ _ _ _ us hl => match us, hl with | [_, _, _, _, _], _ => rfl) (fun vs H Q E h => ?_) fun f cdv A outer s H vs Q E hr h => ?_
  · obtain ⟨G, Post, _, ⟨v, u, z, k, rows, l, cls, a, c, rfl, _⟩, _⟩ := h
    rfl
  · obtain ⟨G, Post, gh, ⟨v, u, z, k, rows, l, cls, a, c, rfl, hm, ok, hu, hlt, hz, hcl, ha, hc, rfl⟩, q⟩ := h
    refine ⟨_, (pss_cons (ps_for PassesOwn.never rfl (piT K (pv 1)) (pgT K (n := 2) (pgs_cons (pg_name (i := 5) sc_clashing.nd rfl (by first | exact Or.inl rfl | exact Or.inr rfl)) (pgs_cons (pg_name (i := 6) sc_clashing.nd rfl (by first | exact Or.inl rfl | exact Or.inr rfl)) pgs_nil))) (pss_one (ps_if (pt_cmpR op_ne (pe_ix (ixT K) (pv 4) (pe_ix (ixT K) (pe_ix (ixT K) (pf K (pv 0)) (pv 5) (fun _ _ => rfl)) (pv 3) (fun _ _ => rfl)) (fun _ _ => rfl)) (pe_ix (ixT K) (pv 4) (pe_ix (ixT K) (pe_ix (ixT K) (pf K (pv 0)) (pv 6) (fun _ _ => rfl)) (pv 2) (fun _ _ => rfl)) (fun _ _ => rfl)) (nomark _)) (pss_one (ps_ret (pe_tup (pa_cons (pv 5) (pa_cons (pv 6) pa_nil))))) pss_nil))) (pss_one (ps_ret pe_non))), ?_⟩
    obtain ⟨p, dx, st, rfl, hp, hst⟩ := hm
    obtain ⟨la, lx, rfl, hl1, hl2⟩ := dp_tuple hu
    have hll := dpA_len hl2
    rw [List.length_map] at hll
    refine ⟨_, rfl, la, rfl, ⟨_, same_t gh hl1⟩, for_it (walk_tup (K := K) (a := la) (xs := lx)) (fun i σ H' => ∃ v5 v6, H' = H ∧ (∀ x ∈ l.take i, cls.getD (at2 rows x.1 c) 0 = cls.getD (at2 rows x.2 a) 0) ∧ σ = [some (.ref p), some (.ref la), some (vI a), some (vI c), some z, v5, v6])
      ⟨none, none, rfl, fun x h => by simp at h, rfl⟩ (fun i σ H' _ ⟨_, _, e, _⟩ => by rw [e]; exact same_t gh hl1) ?_ ?_⟩
    · rintro i x σ H2 H3 hi ⟨v5, v6, rfl, hall, rfl⟩ ⟨rfl, hx⟩
      have hil : i < l.length := by rw [← hll]; exact hi
      obtain ⟨d, hd, hx2⟩ := dpA_at' hl2 hx
      obtain rfl : d = eP l[i] := by simp [hil] at hd; exact hd.symm
      obtain ⟨xa, xx, rfl, hx3, hx4⟩ := dp_tuple hx2
      obtain rfl : xx = [vI l[i].1, vI l[i].2] := by
        cases hx4 with
        | cons h1 h2 =>
          cases h2 with
          | cons h3 h4 => cases h4; rw [dp_int h1, dp_int h3]
      have hb := hlt _ (List.getElem_mem hil)
      have hr1 := ok.m.rl _ (List.getElem_mem hb.1)
      have hr2 := ok.m.rl _ (List.getElem_mem hb.2)
      have b1 := at2_lt ok.m hb.1 hc
      have b2 := at2_lt ok.m hb.2 ha
      refine ⟨xa, _, rfl, same_t gh hx3, rfl, _, _, rfl, _, _, rfl, rfl, ?_⟩
      refine ⟨_, rfl, _, rfl, p, C, dx, _, _, rfl, gh _ _ hp, T.cl, T.nT, lk_steps, _, rfl, ?_⟩
      refine rd_row hst gh hb.1 fun u1 hu1 => ⟨_, rfl, ?_⟩
      refine rd_nat hu1 gh (c := c) (by omega) ?_
      rw [← at2_eq ok.m hb.1 (by omega : c < rows[l[i].1].length)]
      refine rd_nat hz gh (c := at2 rows l[i].1 c) (by omega) ?_
      refine ⟨_, rfl, _, rfl, p, C, dx, _, _, rfl, gh _ _ hp, T.cl, T.nT, lk_steps, _, rfl, ?_⟩
      refine rd_row hst gh hb.2 fun u2 hu2 => ⟨_, rfl, ?_⟩
      refine rd_nat hu2 gh (c := a) (by omega) ?_
      rw [← at2_eq ok.m hb.2 (by omega : a < rows[l[i].2].length)]
      refine rd_nat hz gh (c := at2 rows l[i].2 a) (by omega) ⟨rfl, _, rfl, ?_⟩
      rw [← getD_eq (show at2 rows l[i].1 c < cls.length by omega), ← getD_eq (show at2 rows l[i].2 a < cls.length by omega)]
      by_cases y : cls.getD (at2 rows l[i].1 c) 0 = cls.getD (at2 rows l[i].2 a) 0
      · refine iteFb (by rw [dec_eq (by omega)]; rfl) ⟨_, _, rfl, fun x hx => ?_, rfl⟩
        rw [List.take_succ_eq_append_getElem hil] at hx
        rcases List.mem_append.mp hx with hx | hx
        · exact hall x hx
        · rw [List.mem_singleton.mp hx]; exact y
      · refine iteTb (by rw [dec_ne (by omega)]; rfl) ⟨_, rfl, _, rfl, by show 2 ≤ sizeLine; decide, fun t ht => ?_⟩
        refine q _ _ _ ((Ext.refl gh).new ht) ?_
        have hno : clashF rows cls l a c = false := by
          cases z : clashF rows cls l a c with
          | false => rfl
          | true => exact absurd (of_decide_eq_true (List.all_eq_true.mp z _ (List.getElem_mem hil))) y
        exact iteFb hno ⟨t, rfl⟩
    · rintro σ H2 ⟨v5, v6, rfl, hall, rfl⟩
      rw [hll, List.take_length] at hall
      refine q _ _ _ (Ext.refl gh) ?_
      exact iteTb (List.all_eq_true.mpr fun x hx => decide_eq_true (hall x hx)) rfl
end
end K78

/-! text F12 -/
set_option Elab.async false
set_option linter.all false
set_option maxRecDepth 100000
set_option maxHeartbeats 4000000
namespace K78
open PySem PySem.Spec PyProof.Rows L2

/-! ### lets -/
def letsF (k : Nat) (rows : List (List Nat)) (b s a : Nat) : Bool := (unlikeF k).all fun p => clashF rows (clsF rows a) (seqF k rows (behF rows b) p.1 p.2 (s - 1)) p.1 p.2
theorem settled_min {α : Type} {f : Nat → α} {F : α → α} (hf : ∀ j, f (j + 1) = F (f j)) {x : Nat} (h : Settled f x) (c : Nat) : f (min c x) = f c := by
  have : ∀ n, f (x + n) = f x := by
    intro n
    induction n with
    | zero => rfl
    | succ n ih => rw [← Nat.add_assoc, hf, ih, ← hf, h.2]
  by_cases z : c ≤ x
  · rw [Nat.min_eq_left z]
  · rw [Nat.min_eq_right (by omega)]
    have := this (c - x)
    rw [show x + (c - x) = c by omega] at this
    exact this.symm
theorem layers_at {f : Nat → List Nat} {F : List Nat → List Nat} (hf : ∀ j, f (j + 1) = F (f j)) {x : Nat} (h : Settled f x) (c : Nat) : (layersTo f x).getD (min c ((layersTo f x).length - 1)) [] = f c := by
  have hl : (layersTo f x).length = x + 1 := by simp [layersTo]
  rw [hl, Nat.add_sub_cancel, ← settled_min hf h c]
  have : min c x < x + 1 := by omega
  simp [layersTo, List.getD, this]
section
variable {P : Program} {w : World} {K : PySem.W.Frag} {mg : Str → Option Value} {base : Heap} {C : Addr}
def spLets (K : PySem.W.Frag) (C : Addr) : Sp := pureSp fun G vs Post => ∃ v u k rows x y b s a, vs = [v, u, vI b, vI s, vI a] ∧ Mac K C G v k rows ∧ OkS k rows ∧ k ≤ 40 ∧ LayV K G u rows x y ∧ Settled (behF rows) x ∧ Settled (clsF rows) y ∧ x ≤ 1600 ∧ y ≤ 1600 ∧ 1 ≤ s ∧ s ≤ 10001 ∧ Post = fun G' u => u = .bl (letsF k rows b s a)
theorem sc_lets : FnScope ["machine", "layers", "before", "step", "after", "states", "classes", "a", "c"] ["machine", "layers", "before", "step", "after"] (defScope s_lets) := ⟨rfl, rfl, rfl, by decide +kernel, rfl, by decide +kernel, by decide +kernel⟩
theorem ok_lets (T : Txt K mg C) (F : HasD K mg "lets" s_lets) (d_at_count : Def P w K mg base "at_count" 1 ["rows", "count"] (spAtCount K)) (d_unlike_commands : Def P w K mg base "unlike_commands" 1 ["machine"] (spUnlike K C)) (d_clashing : Def P w K mg base "clashing" 1 ["machine", "pairs", "a", "c", "classes"] (spClashing K C)) (d_pairs_after : Def P w K mg base "pairs_after" 2 ["machine", "states", "a", "c", "gap"] (spPairsAfter K C)) : Def P w K mg base "lets" 3 ["machine", "layers", "before", "step", "after"] (spLets K C) := by
  refine mkDef F sc_lets (fun _ _ _ _ _ _ us hl => match us, hl with | [_, _, _, _, _], _ => rfl) (fun vs H Q E h => ?_) fun f cdv A outer s H vs Q E hr h => ?_
  · obtain ⟨G, Post, _, ⟨v, u, k, rows, x, y, b, s, a, rfl, _⟩, _⟩ := h
    rfl
  · obtain ⟨G, Post, gh, ⟨v, u, k, rows, x, y, b, s, a, rfl, hm, ok, hk, hlay, hx, hy, hx9, hy9, hs1, hs9, rfl⟩, q⟩ := h
    refine ⟨_, (pss_cons (ps_par (i := 5) (j := 6) rfl sc_lets.nd rfl rfl (by decide) rfl rfl (pa_cons (pe_def d_at_count (hr.mono (by decide)) (by rfl) (pa_cons (pe_ix (ixT K) (pv 1) pe_int (fun _ _ => rfl)) (pa_cons (pv 2) pa_nil))) (pa_cons (pe_def d_at_count (hr.mono (by decide)) (by rfl) (pa_cons (pe_ix (ixT K) (pv 1) pe_int (fun _ _ => rfl)) (pa_cons (pv 4) pa_nil))) pa_nil)) (by rfl)) (pss_cons (ps_for PassesOwn.never rfl (piL K (pe_def d_unlike_commands (hr.mono (by decide)) (by rfl) (pa_cons (pv 0) pa_nil))) (pgT K (n := 2) (pgs_cons (pg_name (i := 7) sc_lets.nd rfl (by first | exact Or.inl rfl | exact Or.inr rfl)) (pgs_cons (pg_name (i := 8) sc_lets.nd rfl (by first | exact Or.inl rfl | exact Or.inr rfl)) pgs_nil))) (pss_one (ps_if (pt_cmpR op_notN (pe_def d_clashing (hr.mono (by decide)) (by rfl) (pa_cons (pv 0) (pa_cons (pe_def d_pairs_after (hr.mono (by decide)) (by rfl) (pa_cons (pv 0) (pa_cons (pv 5) (pa_cons (pv 7) (pa_cons (pv 8) (pa_cons (pe_op op_sub (pv 3) pe_int) pa_nil)))))) (pa_cons (pv 7) (pa_cons (pv 8) (pa_cons (pv 6) pa_nil)))))) pe_non (nomark _)) (pss_one (ps_ret pe_bl)) pss_nil))) (pss_one (ps_ret pe_bl)))), ?_⟩
    have hne : ∀ (f : Nat → List Nat) (x : Nat), layersTo f x ≠ [] := fun f x h => by
      have := congrArg List.length h
      simp [layersTo] at this
    obtain ⟨ly, lyx, rfl, hly, hlyx⟩ := dp_tuple hlay
    obtain ⟨u0, u1, rfl, hu0, hu1⟩ : ∃ u0 u1, lyx = [u0, u1] ∧ Dp K G u0 (eLR (layersTo (behF rows) x)) ∧ Dp K G u1 (eLR (layersTo (clsF rows) y)) := by
      cases hlyx with
      | cons h1 h2 =>
        cases h2 with
        | cons h3 h4 => cases h4; exact ⟨_, _, rfl, h1, h3⟩
    refine ⟨_, rfl, ly, [u0, u1], 0, u0, rfl, rfl, same_t gh hly, rfl, ?_⟩
    refine ⟨_, rfl, G, _, gh, ⟨u0, layersTo (behF rows) x, b, rfl, hu0, hne _ _, by simp [layersTo]; omega, rfl⟩, fun s0 G1 H1 e1 d1 => ?_⟩
    have d1 : Dp K G1 s0 (eR ((layersTo (behF rows) x).getD (min b ((layersTo (behF rows) x).length - 1)) [])) := d1
    rw [layers_at (F := onwF rows) (fun _ => rfl) hx] at d1
    refine ⟨_, rfl, ly, [u0, u1], 1, u1, rfl, rfl, same_t (e1.gg.trans e1.gh) hly, rfl, ?_⟩
    refine ⟨_, rfl, G1, _, e1.gh, ⟨u1, layersTo (clsF rows) y, a, rfl, dp_up e1.gg hu1, hne _ _, by simp [layersTo]; omega, rfl⟩, fun c0 G2 H2 e2 d2 => ⟨_, _, rfl, ?_⟩⟩
    have d2 : Dp K G2 c0 (eR ((layersTo (clsF rows) y).getD (min a ((layersTo (clsF rows) y).length - 1)) [])) := d2
    rw [layers_at (F := coarsF rows) (fun _ => rfl) hy] at d2
    have d1 := dp_up e2.gg d1
    have e12 := e1.trans e2
    refine ⟨_, rfl, G2, _, e12.gh, ⟨v, k, rows, rfl, mac_up e12.gg hm, hk, rfl⟩, fun uv G3 H3 e3 d3 => ?_⟩
    have e13 := e12.trans e3
    obtain ⟨ua, ux, rfl, hu3, hu2⟩ := d3
    have hul := dpA_len hu2
    rw [List.length_map] at hul
    refine ⟨ua, rfl, ⟨_, .of (e3.gh _ _ hu3)⟩, for_it (walk_list (K := K) (a := ua) (xs := ux)) (fun i σ H' => ∃ G' v7 v8, Ext [] G H G' H' ∧ L2.Same G3 G' ∧ (∀ p ∈ (unlikeF k).take i, clashF rows (clsF rows a) (seqF k rows (behF rows b) p.1 p.2 (s - 1)) p.1 p.2 = true) ∧ σ = [some v, some (.ref ly), some (vI b), some (vI s), some (vI a), some s0, some c0, v7, v8])
      ⟨G3, none, none, e13, L2.Same.refl _, fun p h => by simp at h, rfl⟩ (fun i σ H' _ ⟨G', _, _, e, g, _⟩ => .of ((g.trans e.gh) _ _ hu3)) ?_ ?_⟩
    · rintro i z σ H4 H5 hi ⟨G', v7, v8, e, g, hall, rfl⟩ ⟨rfl, hz⟩
      have hil : i < (unlikeF k).length := by rw [← hul]; exact hi
      obtain ⟨d, hd, hz2⟩ := dpA_at' hu2 hz
      obtain rfl : d = eP (unlikeF k)[i] := by simp [hil] at hd; exact hd.symm
      obtain ⟨za, zz, rfl, hz3, hz4⟩ := dp_tuple hz2
      obtain rfl : zz = [vI (unlikeF k)[i].1, vI (unlikeF k)[i].2] := by
        cases hz4 with
        | cons h1 h2 =>
          cases h2 with
          | cons h3 h4 => cases h4; rw [dp_int h1, dp_int h3]
      obtain ⟨hb1, hb2⟩ := mem_unlike.mp (List.getElem_mem hil)
      have es : ((s : Int) - 1) = ((s - 1 : Nat) : Int) := by omega
      refine ⟨za, _, rfl, same_t (g.trans e.gh) hz3, rfl, _, _, rfl, _, _, rfl, rfl, ?_⟩
      refine ⟨_, rfl, _, rfl, _, rfl, _, rfl, _, rfl, _, rfl, _, _, rfl, rfl, G', _, e.gh, ⟨v, s0, k, rows, behF rows b, (unlikeF k)[i].1, (unlikeF k)[i].2, s - 1, ?_, mac_up e.gg hm, ok, dp_up ((e3.gg).trans g) d1, behF_lt b, Nat.le_trans (srtN_few (behF_srt b) (behF_lt b)) ok.n, by omega, hb2, by omega, rfl⟩, fun pv G6 H6 e6 d6 => ?_⟩
      · show [_, _, _, _, V.int ((s : Int) - 1)] = _
        rw [es]
      have d6 : Dp K G6 pv (ePs (seqF k rows (behF rows b) (unlikeF k)[i].1 (unlikeF k)[i].2 (s - 1))) := d6
      refine ⟨_, rfl, _, rfl, _, rfl, G6, _, e6.gh, ⟨v, pv, c0, k, rows, _, clsF rows a, _, _, rfl, mac_up (e.gg.trans e6.gg) hm, ok, d6, seqF_lt _, dp_up (e3.gg.trans (g.trans e6.gg)) d2, clsF_len a, by omega, hb2, rfl⟩, fun r G7 H7 e7 d7 => ⟨rfl, _, rfl, ?_⟩⟩
      have d7 : if clashF rows (clsF rows a) (seqF k rows (behF rows b) (unlikeF k)[i].1 (unlikeF k)[i].2 (s - 1)) (unlikeF k)[i].1 (unlikeF k)[i].2 = true then r = .non else ∃ t, r = .ref t := d7
      have e67 := e6.trans e7
      by_cases y : clashF rows (clsF rows a) (seqF k rows (behF rows b) (unlikeF k)[i].1 (unlikeF k)[i].2 (s - 1)) (unlikeF k)[i].1 (unlikeF k)[i].2 = true
      · rw [if_pos y] at d7
        subst d7
        refine iteFb (by simp) ⟨G7, _, _, e.trans e67, g.trans e67.gg, fun p hp => ?_, rfl⟩
        rw [List.take_succ_eq_append_getElem hil] at hp
        rcases List.mem_append.mp hp with hp | hp
        · exact hall p hp
        · rw [List.mem_singleton.mp hp]; exact y
      · rw [if_neg y] at d7
        obtain ⟨t, rfl⟩ := d7
        refine iteTb (by simp) (q _ _ _ (e.trans e67) ?_)
        have : letsF k rows b s a = false := by
          cases z : letsF k rows b s a with
          | false => rfl
          | true => exact absurd (List.all_eq_true.mp z _ (List.getElem_mem hil)) y
        rw [this]
    · rintro σ H4 ⟨G', v7, v8, e, g, hall, rfl⟩
      rw [hul, List.take_length] at hall
      refine q _ _ _ e ?_
      rw [show letsF k rows b s a = true from List.all_eq_true.mpr hall]
/-! ### may_exchange -/
def spMay (K : PySem.W.Frag) (C : Addr) : Sp := pureSp fun G vs Post => ∃ v k rows b s a, vs = [v, vI b, vI s, vI a] ∧ Mac K C G v k rows ∧ OkS k rows ∧ k ≤ 40 ∧ 1 ≤ s ∧ s ≤ 10001 ∧ Post = fun G' u => u = .bl (letsF k rows b s a)
theorem sc_may_exchange : FnScope ["machine", "before", "step", "after"] ["machine", "before", "step", "after"] (defScope s_may_exchange) := ⟨rfl, rfl, rfl, by decide +kernel, rfl, by decide +kernel, by decide +kernel⟩
theorem ok_may_exchange (T : Txt K mg C) (F : HasD K mg "may_exchange" s_may_exchange) (d_lets : Def P w K mg base "lets" 3 ["machine", "layers", "before", "step", "after"] (spLets K C)) (d_layers_of : Def P w K mg base "layers_of" 3 ["machine"] (spLayers K C)) : Def P w K mg base "may_exchange" 4 ["machine", "before", "step", "after"] (spMay K C) := by
  refine mkDef F sc_may_exchange (fun _ _ _ _ _ _ us hl => match us, hl with | [_, _, _, _], _ => rfl) (fun vs H Q E h => ?_) fun f cdv A outer s H vs Q E hr h => ?_
  · obtain ⟨G, Post, _, ⟨v, k, rows, b, s, a, rfl, _⟩, _⟩ := h
    rfl
  · obtain ⟨G, Post, gh, ⟨v, k, rows, b, s, a, rfl, hm, ok, hk, hs1, hs9, rfl⟩, q⟩ := h
    refine ⟨_, (pss_one (ps_ret (pe_def d_lets (hr.mono (by decide)) (by rfl) (pa_cons (pv 0) (pa_cons (pe_def d_layers_of (hr.mono (by decide)) (by rfl) (pa_cons (pv 0) pa_nil)) (pa_cons (pv 1) (pa_cons (pv 2) (pa_cons (pv 3) pa_nil)))))))), ?_⟩
    refine ⟨_, rfl, _, rfl, G, _, gh, ⟨v, k, rows, rfl, hm, ok, rfl⟩, fun u G1 H1 e1 ⟨x, y, hx, hy, hl⟩ => ?_⟩
    have hx9 := behF_few ok hx.1
    have hy9 := clsF_few ok hy.1
    exact ⟨_, rfl, _, rfl, _, rfl, G1, _, e1.gh, ⟨v, u, k, rows, x, y, b, s, a, rfl, mac_up e1.gg hm, ok, hk, hl, hx, hy, by omega, by omega, hs1, hs9, rfl⟩, fun r G2 H2 e2 hr => q _ _ _ (e1.trans e2) hr⟩
end
end K78

/-! text F13 -/
set_option Elab.async false
set_option linter.all false
set_option maxRecDepth 100000
set_option maxHeartbeats 4000000
namespace K78
open PySem PySem.Spec PyProof.Rows L2

theorem fmod_nat (a b : Nat) : Int.fmod (a : Int) (b : Int) = ((a % b : Nat) : Int) := by rw [Int.fmod_eq_emod_of_nonneg _ (by omega)]; rfl
theorem fdiv_nat (a b : Nat) : Int.fdiv (a : Int) (b : Int) = ((a / b : Nat) : Int) := by rw [Int.fdiv_eq_ediv_of_nonneg _ (by omega)]; rfl
/-! ### primes_of, plain -/
structure PInv (p n i : Nat) (F : List Nat) : Prop where
  n1 : 1 ≤ n
  i2 : 2 ≤ i
  np : n ∣ p
  fq : ∀ q ∈ F, 2 ≤ q ∧ q ∣ p
  m : ∀ m, 2 ≤ m → m ∣ p → (∀ q ∈ F, ¬ q ∣ m) → m ∣ n
  j : ∀ j, 2 ≤ j → j < i → ¬ j ∣ n
/-- the primes of p: what is told of them -/
def PrimesIs (p : Nat) (F : List Nat) : Prop := (∀ q ∈ F, 2 ≤ q ∧ q ∣ p) ∧ ∀ m, 2 ≤ m → m ∣ p → ∃ q ∈ F, q ∣ m
section
variable {p n i : Nat} {F : List Nat}
theorem PInv.le (v : PInv p n i F) (hn : 1 < n) : i ≤ n := by
  apply Decidable.byContradiction
  intro h
  exact v.j n (by omega) (by omega) (Nat.dvd_refl n)
theorem PInv.push (v : PInv p n i F) (h : i ∣ n) : PInv p n i (F ++ [i]) := by
  refine ⟨v.n1, v.i2, v.np, fun q hq => ?_, fun m h1 h2 h3 => v.m m h1 h2 fun q hq => h3 q (by simp [hq]), v.j⟩
  rcases List.mem_append.mp hq with hq | hq
  · exact v.fq q hq
  · rw [List.mem_singleton.mp hq]; exact ⟨v.i2, Nat.dvd_trans h v.np⟩
theorem PInv.div (v : PInv p n i F) (hi : i ∈ F) (h : i ∣ n) : PInv p (n / i) i F := by
  obtain ⟨c, rfl⟩ := h
  have hi0 : 0 < i := by have := v.i2; omega
  rw [Nat.mul_div_cancel_left _ hi0]
  have hc : c ∣ i * c := ⟨i, Nat.mul_comm i c⟩
  refine ⟨?_, v.i2, Nat.dvd_trans hc v.np, v.fq, fun m h1 h2 h3 => ?_, fun j h1 h2 h3 => v.j j h1 h2 (Nat.dvd_trans h3 hc)⟩
  · have := v.n1
    cases c with
    | zero => simp at this
    | succ c => omega
  · have hm := v.m m h1 h2 h3
    have hg : Nat.gcd m i = 1 := by
      have g1 : Nat.gcd m i ∣ i := Nat.gcd_dvd_right m i
      have g2 : Nat.gcd m i ∣ m := Nat.gcd_dvd_left m i
      have hle := Nat.le_of_dvd hi0 g1
      have hpos : 0 < Nat.gcd m i := Nat.gcd_pos_of_pos_left _ (by omega)
      apply Decidable.byContradiction
      intro hne
      by_cases z : Nat.gcd m i = i
      · rw [z] at g2; exact h3 i hi g2
      · exact v.j _ (by omega) (by omega) (Nat.dvd_trans g1 ⟨c, rfl⟩)
    exact Nat.Coprime.dvd_of_dvd_mul_left (show Nat.Coprime m i from hg) hm
theorem PInv.next (v : PInv p n i F) (h : ¬ i ∣ n) : PInv p n (i + 1) F := by
  refine ⟨v.n1, by have := v.i2; omega, v.np, v.fq, v.m, fun j h1 h2 => ?_⟩
  by_cases z : j = i
  · rw [z]; exact h
  · exact v.j j h1 (by omega)
theorem PInv.done (v : PInv p n i F) (h : n = 1) : PrimesIs p F := by
  refine ⟨v.fq, fun m h1 h2 => ?_⟩
  apply Decidable.byContradiction
  intro hno
  have := v.m m h1 h2 fun q hq hd => hno ⟨q, hq, hd⟩
  rw [h] at this
  have := Nat.le_of_dvd (by omega) this
  omega
theorem PInv.init (hp : 1 ≤ p) : PInv p p 2 [] := ⟨hp, by omega, Nat.dvd_refl p, fun q h => by simp at h, fun m _ h _ => h, fun j h1 h2 => by omega⟩
end
section
variable {P : Program} {w : World} {K : PySem.W.Frag} {mg : Str → Option Value} {base : Heap} {C : Addr}
def spPrimes (K : PySem.W.Frag) : Sp := pureSp fun G vs Post => ∃ p : Nat, vs = [vI p] ∧ 1 ≤ p ∧ p ≤ 5000 ∧ Post = fun G' u => ∃ F, PrimesIs p F ∧ F.length ≤ 5001 ∧ Ld K G' u (F.map eI)
theorem sc_primes_of : FnScope ["number", "found", "one"] ["number"] (defScope s_primes_of) := ⟨rfl, rfl, rfl, by decide +kernel, rfl, by decide +kernel, by decide +kernel⟩
theorem ok_primes_of (T : Txt K mg C) (F : HasD K mg "primes_of" s_primes_of) : Def P w K mg base "primes_of" 1 ["number"] (spPrimes K) := by
  refine mkDef F sc_primes_of (fun _ _ _ _ _ _ us hl => match us, hl with | [_], _ => rfl) (fun vs H Q E h => ?_) fun f cdv A outer s H vs Q E hr h => ?_
  · obtain ⟨G, Post, _, ⟨p, rfl, _⟩, _⟩ := h
    rfl
  · obtain ⟨G, Post, gh, ⟨p, rfl, hp1, hp9, rfl⟩, q⟩ := h
    refine ⟨_, (pss_cons (ps_par (i := 1) (j := 2) rfl sc_primes_of.nd rfl rfl (by decide) rfl rfl (pa_cons (pe_lst pa_nil) (pa_cons pe_int pa_nil)) (by rfl)) (pss_cons (ps_while PassesOwn.never (pt_cmpR op_gt (pv 0) pe_int (nomark _)) (pss_cons (ps_if (pt_cmpR op_eq (pe_op op_modN (pv 0) (pv 2)) pe_int (nomark _)) (pss_cons (ps_expr (pe_bm PySem.F.plainAttrs_list PySem.F.slot_list_append PySem.F.type_list_append mt_append (pv 1) (pa_cons (pv 2) pa_nil))) (pss_one (ps_while PassesOwn.never (pt_cmpR op_eq (pe_op op_modN (pv 0) (pv 2)) pe_int (nomark _)) (pss_one (ps_set (i := 0) sc_primes_of.nd rfl (by first | exact Or.inl rfl | exact Or.inr rfl) (pe_op op_fdivN (pv 0) (pv 2))))))) pss_nil) (pss_one (ps_set (i := 2) sc_primes_of.nd rfl (by first | exact Or.inl rfl | exact Or.inr rfl) (pe_op op_add (pv 2) pe_int))))) (pss_one (ps_ret (pv 1))))), ?_⟩
    refine ⟨by show 0 ≤ sizeLine; decide, fun l hl => ⟨_, _, rfl, ?_⟩⟩
    have gl := gh.free hl
    refine ⟨fun m σ H' => ∃ n i F, Ext [] G H G H' ∧ H' l = some (.lst (F.map vI)) ∧ PInv p n i F ∧ F.length + 2 ≤ i ∧ n ≤ p ∧ m = n + 1 - i ∧ i ≤ 5001 ∧ σ = [some (vI n), some (.ref l), some (vI i)],
      ⟨_, p, 2, [], (Ext.refl gh).newM hl, upd_same, .init hp1, Nat.le_refl _, Nat.le_refl _, rfl, by omega, rfl⟩, ?_⟩
    rintro m σ H1 ⟨n, i, F, e, h1, v, hF, hnp, rfl, hi9, rfl⟩
    refine ⟨_, rfl, _, _, rfl, rfl, _, rfl, ?_⟩
    by_cases hn : 1 < n
    · refine iteTb (decide_eq_true (by omega)) ⟨fun σ' H' => _, fun _ _ h => h, ?_⟩
      have hin := v.le hn
      have hi2 := v.i2
      refine ⟨_, rfl, _, rfl, _, _, rfl, rfl, by omega, rfl, _, rfl, ?_⟩
      by_cases hd : n % i = 0
      · refine iteTb (dec_eq (by rw [fmod_nat]; omega)) ⟨_, rfl, .inl ⟨rfl, _, .of h1⟩, _, rfl, l, _, _, rfl, rfl, h1, by rw [List.length_map]; exact Nat.lt_of_le_of_lt (show F.length ≤ 6000 by omega) (by decide), ?_⟩
        have hdv : i ∣ n := Nat.dvd_of_mod_eq_zero hd
        have e2 := e.mut (o := .lst (F.map vI ++ [vI i])) (.inl hl) gl
        have h2 : upd H1 l (.lst (F.map vI ++ [vI i])) l = some (.lst ((F ++ [i]).map vI)) := by rw [upd_same, List.map_append]; rfl
        generalize upd H1 l (.lst (F.map vI ++ [vI i])) = H2 at e2 h2 ⊢
        refine ⟨fun m σ H' => ∃ n', H' = H2 ∧ PInv p n' i (F ++ [i]) ∧ n' ≤ n ∧ m = n' ∧ σ = [some (vI n'), some (.ref l), some (vI i)], ⟨n, n, rfl, v.push hdv, Nat.le_refl _, rfl, rfl⟩, ?_⟩
        rintro m σ H3 ⟨n', rfl, v', hn', hmn, rfl⟩
        subst m
        refine ⟨_, rfl, _, rfl, _, _, rfl, rfl, by omega, rfl, _, rfl, ?_⟩
        by_cases hd2 : n' % i = 0
        · refine iteTb (dec_eq (by rw [fmod_nat]; omega)) ⟨fun σ' H' => _, fun _ _ h => h, ?_⟩
          have hdv2 : i ∣ n' := Nat.dvd_of_mod_eq_zero hd2
          have hlt : n' / i < n' := Nat.div_lt_self v'.n1 (by omega)
          refine ⟨_, rfl, _, rfl, _, _, rfl, rfl, ⟨by omega, by omega⟩, ?_⟩
          exact ⟨n' / i, hlt, n' / i, rfl, v'.div (by simp) hdv2, by omega, rfl, by show [some (V.int (Int.fdiv n' i)), some (V.ref l), some (vI i)] = _; rw [fdiv_nat]⟩
        · refine iteFb (dec_ne (by rw [fmod_nat]; omega)) ⟨_, rfl, _, _, rfl, rfl, ?_⟩
          have hnd : ¬ i ∣ n' := fun z => hd2 (Nat.mod_eq_zero_of_dvd z)
          exact ⟨n' + 1 - (i + 1), by omega, n', i + 1, F ++ [i], e2, h2, v'.next hnd, by simp; omega, by omega, rfl, by omega, rfl⟩
      · refine iteFb (dec_ne (by rw [fmod_nat]; omega)) ⟨_, rfl, _, _, rfl, rfl, ?_⟩
        have hnd : ¬ i ∣ n := fun z => hd (Nat.mod_eq_zero_of_dvd z)
        exact ⟨n + 1 - (i + 1), by omega, n, i + 1, F, e, h1, v.next hnd, by omega, by omega, rfl, by omega, rfl⟩
    · refine iteFb (decide_eq_false (by omega)) ⟨_, rfl, ?_⟩
      have hn1 : n = 1 := by have := v.n1; omega
      exact q _ _ _ (e.pub hl gl h1) ⟨F, v.done hn1, by omega, l, _, rfl, upd_same, dpA_ints F⟩
end
end K78

/-! text F14 -/
set_option Elab.async false
set_option linter.all false
set_option maxRecDepth 100000
set_option maxHeartbeats 4000000
namespace K78
open PySem PySem.Spec PyProof.Rows L2

/-! ### rounds -/
def lotsF (k : Nat) (rows : List (List Nat)) (S : List Nat) (j : Nat) : List (List (Nat × Nat)) := (unlikeF k).map fun p => seqF k rows S p.1 p.2 j
theorem lotsF_succ (k : Nat) (rows : List (List Nat)) (S : List Nat) (j : Nat) : lotsF k rows S (j + 1) = (lotsF k rows S j).map (carrF k rows) := by
  unfold lotsF
  rw [List.map_map]; rfl
section
variable {P : Program} {w : World} {K : PySem.W.Frag} {mg : Str → Option Value} {base : Heap} {C : Addr}
/-- a list comprehension's state: the first i of f stand in the new list -/
def LcP (K : PySem.W.Frag) (G H : Hp) (D : Addr) (f : List PyData) (i : Nat) (H' : Hp) : Prop := ∃ G' acc, Ext [] G H G' H' ∧ G' D = none ∧ H' D = some (.lst acc) ∧ acc.length = i ∧ DpAll K G' acc (f.take i)
theorem lcP_start {G H : Hp} {D : Addr} {f : List PyData} (gh : L2.Same G H) (hD : H D = none) : LcP K G H D f 0 (upd H D (.lst [])) := ⟨G, [], (Ext.refl gh).newM hD, gh.free hD, upd_same, rfl, .nil⟩
theorem lcP_step {G H G' H' G2 H2 : Hp} {D : Addr} {f : List PyData} {i : Nat} {acc : List V} {y : V} {r : PyData} (e : Ext [] G H G' H') (hD : H D = none) (g : G' D = none) (h : H' D = some (.lst acc)) (hl : acc.length = i) (ha : DpAll K G' acc (f.take i)) (e2 : Ext [] G' H' G2 H2) (hr : f[i]? = some r) (hy : Dp K G2 y r) (hi : i < 100000) :
    ∃ acc, H2 D = some (.lst acc) ∧ acc.length < sizeLine ∧ LcP K G H D f (i + 1) (upd H2 D (.lst (acc ++ [y]))) := by
  obtain ⟨k1, k2⟩ := e2.keepM h g (by simp)
  refine ⟨acc, k1, by rw [hl]; exact Nat.lt_of_le_of_lt (show i ≤ 100000 by omega) (by decide), G2, acc ++ [y], (e.trans e2).mut (.inl hD) k2, k2, upd_same, by simp [hl], ?_⟩
  obtain ⟨h1, h2⟩ := List.getElem?_eq_some_iff.mp hr
  rw [List.take_succ_eq_append_getElem h1, h2]
  exact dpA_app (dpA_up e2.gg ha) (.cons hy .nil)
theorem lcP_done {G H H' : Hp} {D : Addr} {f : List PyData} {n : Nat} (p : LcP K G H D f n H') (hn : f.length = n) (hD : H D = none) : ∃ G', Ext [] G H G' H' ∧ Ld K G' (.ref D) f := by
  obtain ⟨G', acc, e, hg, h1, _, h3⟩ := p
  rw [← hn, List.take_length] at h3
  exact ⟨_, e.pub hD hg h1, D, acc, rfl, upd_same, dpA_up (fun b o hb => by rw [upd_ne (ne_of_none hb hg)]; exact hb) h3⟩
/-- the lots come back soon -/
def Round (k : Nat) (rows : List (List Nat)) (S : List Nat) : Prop := ∃ i j, i < j ∧ j < 5000 ∧ lotsF k rows S j = lotsF k rows S i
def spRounds (K : PySem.W.Frag) (C : Addr) : Sp := pureSp fun G vs Post => ∃ v k rows, vs = [v] ∧ Mac K C G v k rows ∧ OkS k rows ∧ k ≤ 40 ∧ (∀ x, Settled (behF rows) x → Round k rows (behF rows x)) ∧
  Post = fun G' u => ∃ x s p, Settled (behF rows) x ∧ 1 ≤ p ∧ s + p < 5000 ∧ lotsF k rows (behF rows x) (s + p) = lotsF k rows (behF rows x) s ∧ Dp K G' u (eP (s, p))
theorem sc_rounds : FnScope ["machine", "states", "lots", "places", "a", "c", "pairs"] ["machine"] (defScope s_rounds) := ⟨rfl, rfl, rfl, by decide +kernel, rfl, by decide +kernel, by decide +kernel⟩
theorem ok_rounds (T : Txt K mg C) (F : HasD K mg "rounds" s_rounds) (d_all_behind : Def P w K mg base "all_behind" 2 ["machine"] (spBehind K C)) (d_unlike_commands : Def P w K mg base "unlike_commands" 1 ["machine"] (spUnlike K C)) (d_opened : Def P w K mg base "opened" 1 ["machine", "states", "a", "c"] (spOpened K C)) (d_carried : Def P w K mg base "carried" 1 ["machine", "pairs"] (spCarried K C)) : Def P w K mg base "rounds" 3 ["machine"] (spRounds K C) := by
  refine mkDef F sc_rounds (fun _ _ _ _ _ _ us hl => match us, hl with | [_], _ => rfl) (fun vs H Q E h => ?_) fun f cdv A outer s H vs Q E hr h => ?_
  · obtain ⟨G, Post, _, ⟨v, k, rows, rfl, _⟩, _⟩ := h
    rfl
  · obtain ⟨G, Post, gh, ⟨v, k, rows, rfl, hm, ok, hk, hrd, rfl⟩, q⟩ := h
    obtain ⟨tm, hmost⟩ := T.most
    refine ⟨_, (pss_cons (ps_set (i := 1) sc_rounds.nd rfl (by first | exact Or.inl rfl | exact Or.inr rfl) (pe_ix (ixL K) (pe_def d_all_behind (hr.mono (by decide)) (by rfl) (pa_cons (pv 0) pa_nil)) (pe_un un_neg pe_int) (fun _ _ => rfl))) (pss_cons (ps_par (i := 2) (j := 3) rfl sc_rounds.nd rfl rfl (by decide) rfl rfl (pa_cons (pe_callTy (tupOf K) (by rfl) T.f_tuple (by decide +kernel) (pa_cons (pe_lc (own := [("a", 4), ("c", 5)]) rfl sc_rounds.nd (piL K (pe_def d_unlike_commands (hr.mono (by decide)) (by rfl) (pa_cons (pv 0) pa_nil))) (blkOk_by (own := [("a", 4), ("c", 5)]) (by kernel_rfl)) (fun _ _ _ _ _ => (pgT K (n := 2) (pgs_cons (pg_name (i := 4) sc_rounds.nd rfl (by first | exact Or.inl rfl | exact Or.inr rfl)) (pgs_cons (pg_name (i := 5) sc_rounds.nd rfl (by first | exact Or.inl rfl | exact Or.inr rfl)) pgs_nil)))) (fun _ _ _ _ _ => pts_nil) (fun _ _ _ _ _ => (pe_def d_opened (hr.mono (by decide)) (by rfl) (pa_cons (pv 0) (pa_cons (pv 1) (pa_cons (pv 4) (pa_cons (pv 5) pa_nil))))))) pa_nil)) (pa_cons (dnewN P w K) pa_nil)) (by rfl)) (pss_cons (ps_while PassesOwn.never (pt_cmpR (niN P w K (hu9 hr)) (pv 2) (pv 3) (by rfl)) (pss_cons (ps_if (pt_cmpR op_eq (pe_callB (lenN P w K) (by rfl) T.f_len (by decide +kernel) (pa_cons (pv 3) pa_nil)) (pe_glob (v := .int 5000) (by rfl) hmost ⟨_, rfl⟩) (nomark _)) (pss_one ps_never) pss_nil) (pss_cons (dputN P w K (hu9 hr) (pv 3) (pv 2) (pe_callB (lenN P w K) (by rfl) T.f_len (by decide +kernel) (pa_cons (pv 3) pa_nil))) (pss_one (ps_set (i := 2) sc_rounds.nd rfl (by first | exact Or.inl rfl | exact Or.inr rfl) (pe_callTy (tupOf K) (by rfl) T.f_tuple (by decide +kernel) (pa_cons (pe_lc (own := [("pairs", 6)]) rfl sc_rounds.nd (piT K (pv 2)) (blkOk_by (own := [("pairs", 6)]) (by kernel_rfl)) (fun _ _ _ _ _ => (pg_name (i := 6) sc_rounds.nd rfl (by first | exact Or.inl rfl | exact Or.inr rfl))) (fun _ _ _ _ _ => pts_nil) (fun _ _ _ _ _ => (pe_def d_carried (hr.mono (by decide)) (by rfl) (pa_cons (pv 0) (pa_cons (pv 6) pa_nil))))) pa_nil))))))) (pss_one (ps_ret (pe_tup (pa_cons (dgetN P w K (hu9 hr) (pv 3) (pv 2) (fun _ _ => rfl)) (pa_cons (pe_op op_sub (pe_callB (lenN P w K) (by rfl) T.f_len (by decide +kernel) (pa_cons (pv 3) pa_nil)) (dgetN P w K (hu9 hr) (pv 3) (pv 2) (fun _ _ => rfl))) pa_nil)))))))), ?_⟩
    refine ⟨_, rfl, G, _, gh, ⟨v, k, rows, rfl, hm, ok, rfl⟩, fun bv G1 H1 e1 ⟨x, hx, d1⟩ => ?_⟩
    obtain ⟨ba, bx, rfl, hb1, hb2⟩ := d1
    obtain ⟨il, hil⟩ := layersTo_init (behF rows) x
    rw [hil, List.map_append] at hb2
    obtain ⟨ys, y, rfl, hy1, hy2⟩ := dpA_snoc hb2
    have hSl : (behF rows x).length ≤ 40 := Nat.le_trans (srtN_few (behF_srt x) (behF_lt x)) ok.n
    have hul : (unlikeF k).length ≤ 1600 := by
      have nd : SrtP ((unlikeF k).map fun p => (p.2, p.1)) := by
        have gen : ∀ k, SrtP ((unlikeF k).map fun p => (p.2, p.1)) := by
          intro k
          unfold unlikeF
          induction k with
          | zero => simp
          | succ k ih =>
            rw [List.range_succ, List.flatMap_append, List.map_append]
            refine List.pairwise_append.mpr ⟨ih, ?_, fun a ha b hb => ?_⟩
            · simp only [List.flatMap_cons, List.flatMap_nil, List.append_nil, List.map_map]
              exact List.pairwise_map.mpr ((range_srt k).imp fun h => .inr ⟨rfl, h⟩)
            · simp only [List.mem_map, List.mem_flatMap, List.mem_range] at ha hb
              obtain ⟨p, ⟨c, hc, a', ha', rfl⟩, rfl⟩ := ha
              simp only [List.mem_cons, List.not_mem_nil, or_false] at hb
              obtain ⟨p, ⟨c', hc', b', hb', rfl⟩, rfl⟩ := hb
              subst hc'
              exact .inl hc
        exact gen k
      have := srtP_few (n := 40) nd fun q hq => by
        obtain ⟨p, hp, rfl⟩ := List.mem_map.mp hq
        have := mem_unlike.mp hp
        simp only
        omega
      simpa using this
    refine ⟨_, rfl, ba, ys ++ [y], -1, y, rfl, rfl, .of (e1.gh _ _ hb1), atI_last ys y, ?_⟩
    -- the first lots
    refine ⟨_, rfl, G1, _, e1.gh, ⟨v, k, rows, rfl, mac_up e1.gg hm, hk, rfl⟩, fun uv G2 H2 e2 d2 => ?_⟩
    obtain ⟨ua, ux, rfl, hu1, hu2⟩ := d2
    have huxl := dpA_len hu2
    rw [List.length_map] at huxl
    have e02 := e1.trans e2
    refine ⟨ua, rfl, ⟨_, .of (e2.gh _ _ hu1)⟩, fun D hD => lc_it (walk_list (K := K) (a := ua) (xs := ux)) (LcP K G2 H2 D ((lotsF k rows (behF rows x) 0).map ePs)) (lcP_start e2.gh hD) (fun i H' _ ⟨G', _, e, _⟩ => .of ((e.gg.trans e.gh) _ _ hu1)) ?_ ?_⟩
    · rintro i z H3 H4 hi ⟨G', acc, e, hg, h1, h2, h3⟩ ⟨rfl, hz⟩
      have hil : i < (unlikeF k).length := by rw [← huxl]; exact hi
      obtain ⟨d, hd, hz2⟩ := dpA_at' hu2 hz
      obtain rfl : d = eP (unlikeF k)[i] := by simp [hil] at hd; exact hd.symm
      obtain ⟨za, zz, rfl, hz3, hz4⟩ := dp_tuple hz2
      obtain rfl : zz = [vI (unlikeF k)[i].1, vI (unlikeF k)[i].2] := by
        cases hz4 with
        | cons h1 h2 =>
          cases h2 with
          | cons h3 h4 => cases h4; rw [dp_int h1, dp_int h3]
      obtain ⟨hb1, hb2⟩ := mem_unlike.mp (List.getElem_mem hil)
      refine ⟨za, _, rfl, same_t (e.gg.trans e.gh) hz3, rfl, _, _, rfl, _, _, rfl, rfl, rfl, tYes_of (iteT ?_)⟩
      refine ⟨_, rfl, _, rfl, _, rfl, _, rfl, G', _, e.gh, ⟨v, y, k, rows, behF rows x, _, _, rfl, mac_up (e02.gg.trans e.gg) hm, ok, dp_up (e2.gg.trans e.gg) hy2, behF_lt x, hSl, by omega, hb2, rfl⟩, fun ov G5 H5 e5 d5 => ?_⟩
      exact lcP_step (y := ov) (r := ePs (openF rows (behF rows x) (unlikeF k)[i].1 (unlikeF k)[i].2)) e hD hg h1 h2 h3 e5 (by simp [lotsF, seqF, hil]) d5 (by omega)
    · intro H3 p3
      obtain ⟨G3, e3, d3⟩ := lcP_done p3 (by simp [lotsF, huxl]) hD
      dsimp only [tNil]
      refine rd_tupOf d3 e3.gh fun lt G4 H4 e4 d4 => ?_
      have e04 := (e02.trans e3).trans e4
      have hy4 := dp_up ((e2.gg.trans e3.gg).trans e4.gg) hy2
      refine fun PL hPL hDat => ⟨_, _, rfl, ?_⟩
      have hPL0 : H PL = none := e04.base hPL
      have e5 := e04.newM (o := DN P w PL []) hPL
      have D5 := hDat G4
      have d4 : Dp K G4 (.ref lt) (eLots (lotsF k rows (behF rows x) 0)) := d4
      have gPL := e04.gh.free hPL
      generalize upd H4 PL (DN P w PL []) = H5 at e5 D5
      obtain ⟨i0, j0, hij, hj0, hlots⟩ := hrd x hx
      refine ⟨fun m σ H' => ∃ G' r lv v4 v5 v6, Ext [] G H G' H' ∧ L2.Same G4 G' ∧ G' PL = none ∧ DAt P w K G' H' PL (plKv eLots ((List.range r).map (lotsF k rows (behF rows x)))) ∧ Dp K G' lv (eLots (lotsF k rows (behF rows x) r)) ∧ r ≤ j0 ∧ m = j0 - r ∧ σ = [some v, some y, some lv, some (.ref PL), v4, v5, v6],
        ⟨j0, G4, 0, .ref lt, none, none, none, e5, L2.Same.refl _, gPL, D5, d4, Nat.zero_le _, rfl, rfl⟩, ?_⟩
      rintro m σ H6 ⟨G', r, lv, v4, v5, v6, e, g4, gP, DD, hlv, hr, rfl, rfl⟩
      have hks := plKv_ks (enc := eLots) ((List.range r).map (lotsF k rows (behF rows x)))
      have hval := hks.val_in kLots (b := lotsF k rows (behF rows x) r)
      have hklen : (plKv eLots ((List.range r).map (lotsF k rows (behF rows x)))).length = r := by rw [hks.length]; simp
      refine ⟨_, rfl, _, rfl, PL, G', _, _, rfl, e.gh, DD, kd_lots hlv, _, rfl, ?_⟩
      by_cases hin : lotsF k rows (behF rows x) r ∈ (List.range r).map (lotsF k rows (behF rows x))
      · refine iteFb (by rw [hval.mpr hin]; rfl) ?_
        obtain ⟨j, hj, hv⟩ := plKv_val (enc := eLots) kLots hin
        have hjr : j < r := by have := (List.getElem?_eq_some_iff.mp hj).1; simpa using this
        have hjs : lotsF k rows (behF rows x) j = lotsF k rows (behF rows x) r := by simpa [hjr] using hj
        refine ⟨_, rfl, _, rfl, PL, G', _, _, _, rfl, e.gh, DD, kd_lots hlv, hv, _, rfl, PL, G', _, rfl, e.gh, DD, by rw [hklen]; exact Nat.le_trans (show r ≤ 5000 by omega) (by decide), _, rfl, _, rfl, PL, G', _, _, _, rfl, e.gh, DD, kd_lots hlv, hv, _, _, rfl, rfl, by show 2 ≤ sizeLine; decide, fun t ht => ?_⟩
        rw [hklen]
        have e7 := e.new (o := .tup [vI j, V.int ((r : Int) - (j : Int))]) ht
        have es : (r : Int) - (j : Int) = ((r - j : Nat) : Int) := by omega
        refine q _ _ _ e7 ⟨x, j, r - j, hx, by omega, by omega, by rw [show j + (r - j) = r by omega]; exact hjs.symm, ?_⟩
        rw [es]
        exact .tup (.of upd_same) (.cons (.int _) (.cons (.int _) .nil))
      · have hnone : (valV (plKv eLots ((List.range r).map (lotsF k rows (behF rows x)))) (toK (eLots (lotsF k rows (behF rows x) r)))).isSome = false := by
          cases z : (valV (plKv eLots ((List.range r).map (lotsF k rows (behF rows x)))) (toK (eLots (lotsF k rows (behF rows x) r)))).isSome with
          | false => rfl
          | true => exact absurd (hval.mp z) hin
        have hrj : r < j0 := by
          apply Decidable.byContradiction
          intro z
          have : r = j0 := by omega
          subst this
          exact hin (List.mem_map.mpr ⟨i0, List.mem_range.mpr hij, hlots.symm⟩)
        refine iteTb (by rw [hnone]; rfl) ⟨fun σ' H' => _, fun _ _ h => h, ?_⟩
        refine ⟨_, rfl, PL, G', _, rfl, e.gh, DD, by rw [hklen]; exact Nat.le_trans (show r ≤ 5000 by omega) (by decide), rfl, _, rfl, ?_⟩
        refine iteFb (by rw [hklen]; exact dec_ne (by omega)) ?_
        refine ⟨_, rfl, PL, G', _, rfl, e.gh, DD, by rw [hklen]; exact Nat.le_trans (show r ≤ 5000 by omega) (by decide), _, rfl, _, rfl, PL, G', _, _, rfl, e.gh, gP, DD, kd_lots hlv, by rw [hklen]; exact Nat.lt_of_le_of_lt (show r ≤ 5000 by omega) (by decide), fun o D7 => ?_⟩
        rw [put_new (by rw [hks, kLots.mem]; exact hin), hklen] at D7
        have e7 := e.mut (o := o) (.inl hPL0) gP
        have D8 : DAt P w K G' (upd H6 PL o) PL (plKv eLots ((List.range (r + 1)).map (lotsF k rows (behF rows x)))) := by
          rw [List.range_succ, List.map_append, List.map_singleton, plKv_snoc, List.length_map, List.length_range]
          exact D7
        generalize upd H6 PL o = H7 at e7 D8
        obtain ⟨la, lx, rfl, hl1, hl2⟩ := dp_tuple hlv
        have hlxl := dpA_len hl2
        rw [List.length_map] at hlxl
        have hlen : (lotsF k rows (behF rows x) r).length = (unlikeF k).length := by simp [lotsF]
        refine ⟨_, rfl, la, rfl, ⟨_, same_t e7.gh hl1⟩, fun D2 hD2 => lcTD (K := K) ((lotsF k rows (behF rows x) (r + 1)).map ePs) (by simp [lotsF, hlxl]) e7.gh hl1 hD2 (fun _ => rfl) (by omega) (fun i z rr hz hrr G8 H8 e8 Q8 q8 => ?_) fun G8 H8 e8 d8 => ?_⟩
        · obtain ⟨d, hd, hz2⟩ := dpA_at' hl2 hz
          have hil : i < (unlikeF k).length := by
            have := (List.getElem?_eq_some_iff.mp hz).1
            omega
          obtain rfl : d = ePs (seqF k rows (behF rows x) (unlikeF k)[i].1 (unlikeF k)[i].2 r) := by simp [lotsF, hil] at hd; exact hd.symm
          obtain rfl : rr = ePs (carrF k rows (seqF k rows (behF rows x) (unlikeF k)[i].1 (unlikeF k)[i].2 r)) := by simp [lotsF, hil, seqF] at hrr; exact hrr.symm
          exact ⟨_, rfl, _, rfl, G8, _, e8.gh, ⟨v, z, k, rows, _, rfl, mac_up (e7.gg.trans e8.gg) hm, ok, dp_up e8.gg hz2, seqF_lt r, rfl⟩, fun u9 G9 H9 e9 d9 => q8 _ _ _ e9 d9⟩
        · dsimp only [tNil]
          refine rd_tupOf d8 e8.gh fun t G9 H9 e9 d9 => ?_
          have e79 := e8.trans e9
          obtain ⟨zs, z1, _⟩ := D8.ex
          obtain ⟨f1, f2⟩ := e79.keepM z1 gP (by simp)
          exact ⟨j0 - (r + 1), by omega, G9, r + 1, _, _, _, _, e7.trans e79, g4.trans e79.gg, f2, dat_up D8 e79.gg (by rw [f1, z1]), d9, by omega, rfl, rfl⟩
end
end K78

/-! text F15 -/
set_option Elab.async false
set_option linter.all false
set_option maxRecDepth 100000
set_option maxHeartbeats 4000000
namespace K78
open PySem PySem.Spec PyProof.Rows L2

/-! ### numbers -/
theorem settled_uniq {α : Type} {f : Nat → α} {x y : Nat} (h : Settled f x) (h' : Settled f y) : x = y := by
  apply Decidable.byContradiction
  intro z
  by_cases l : x < y
  · exact h'.1 x l h.2
  · exact h.1 y (by omega) h'.2
/-- what the numbers are -/
def NumIs (k : Nat) (rows : List (List Nat)) (r : Option (Nat × Nat × Nat)) : Prop := ∃ X Y, Settled (behF rows) X ∧ Settled (clsF rows) Y ∧ match r with
  | none => ∀ s, 1 ≤ s → letsF k rows X s Y = false
  | some (f, l, d) => 1 ≤ d ∧ (∀ s, 1 ≤ s → (letsF k rows X s Y = true ↔ d ∣ s)) ∧ letsF k rows f d Y = true ∧ (∀ j, j < f → letsF k rows j d Y = false) ∧ letsF k rows X d l = true ∧ ∀ j, j < l → letsF k rows X d j = false
structure NumPre (k : Nat) (rows : List (List Nat)) : Prop where
  rd : ∀ x, Settled (behF rows) x → Round k rows (behF rows x)
  cs : ∀ x y, Settled (behF rows) x → Settled (clsF rows) y → (∀ s, 1 ≤ s → letsF k rows x s y = false) ∨ ∃ d, 1 ≤ d ∧ (∀ s, 1 ≤ s → (letsF k rows x s y = true ↔ d ∣ s)) ∧ ∀ s0 p, 1 ≤ p → lotsF k rows (behF rows x) (s0 + p) = lotsF k rows (behF rows x) s0 → d ∣ p
def eNum : Option (Nat × Nat × Nat) → PyData
  | none => .none
  | some (f, l, d) => .tuple [eI f, eI l, eI d]
section
variable {P : Program} {w : World} {K : PySem.W.Frag} {mg : Str → Option Value} {base : Heap} {C : Addr}
def spNumbers (K : PySem.W.Frag) (C : Addr) : Sp := pureSp fun G vs Post => ∃ v k rows, vs = [v] ∧ Mac K C G v k rows ∧ OkS k rows ∧ k ≤ 40 ∧ NumPre k rows ∧ Post = fun G' u => ∃ r, NumIs k rows r ∧ Dp K G' u (eNum r)
theorem sc_numbers : FnScope ["machine", "start", "step", "layers", "x", "y", "prime", "first", "last"] ["machine"] (defScope s_numbers) := ⟨rfl, rfl, rfl, by decide +kernel, rfl, by decide +kernel, by decide +kernel⟩
theorem ok_numbers (T : Txt K mg C) (F : HasD K mg "numbers" s_numbers) (d_rounds : Def P w K mg base "rounds" 3 ["machine"] (spRounds K C)) (d_layers_of : Def P w K mg base "layers_of" 3 ["machine"] (spLayers K C)) (d_lets : Def P w K mg base "lets" 3 ["machine", "layers", "before", "step", "after"] (spLets K C)) (d_primes_of : Def P w K mg base "primes_of" 1 ["number"] (spPrimes K)) : Def P w K mg base "numbers" 4 ["machine"] (spNumbers K C) := by
  refine mkDef F sc_numbers (fun _ _ _ _ _ _ us hl => match us, hl with | [_], _ => rfl) (fun vs H Q E h => ?_) fun f cdv A outer s H vs Q E hr h => ?_
  · obtain ⟨G, Post, _, ⟨v, k, rows, rfl, _⟩, _⟩ := h
    rfl
  · obtain ⟨G, Post, gh, ⟨v, k, rows, rfl, hm, ok, hk, pre, rfl⟩, q⟩ := h
    refine ⟨_, (pss_cons (ps_asg (pe_def d_rounds (hr.mono (by decide)) (by rfl) (pa_cons (pv 0) pa_nil)) (pgT K (n := 2) (pgs_cons (pg_name (i := 1) sc_numbers.nd rfl (by first | exact Or.inl rfl | exact Or.inr rfl)) (pgs_cons (pg_name (i := 2) sc_numbers.nd rfl (by first | exact Or.inl rfl | exact Or.inr rfl)) pgs_nil)))) (pss_cons (ps_set (i := 3) sc_numbers.nd rfl (by first | exact Or.inl rfl | exact Or.inr rfl) (pe_def d_layers_of (hr.mono (by decide)) (by rfl) (pa_cons (pv 0) pa_nil))) (pss_cons (ps_par (i := 4) (j := 5) rfl sc_numbers.nd rfl rfl (by decide) rfl rfl (pa_cons (pe_op op_sub (pe_callB (lenS K) (by rfl) T.f_len (by decide +kernel) (pa_cons (pe_ix (ixT K) (pv 3) pe_int (fun _ _ => rfl)) pa_nil)) pe_int) (pa_cons (pe_op op_sub (pe_callB (lenS K) (by rfl) T.f_len (by decide +kernel) (pa_cons (pe_ix (ixT K) (pv 3) pe_int (fun _ _ => rfl)) pa_nil)) pe_int) pa_nil)) (by rfl)) (pss_cons (ps_if (pt_not (pt_val (pe_def d_lets (hr.mono (by decide)) (by rfl) (pa_cons (pv 0) (pa_cons (pv 3) (pa_cons (pv 4) (pa_cons (pv 2) (pa_cons (pv 5) pa_nil)))))))) (pss_one (ps_ret pe_non)) pss_nil) (pss_cons (ps_for PassesOwn.never rfl (piL K (pe_def d_primes_of (hr.mono (by decide)) (by rfl) (pa_cons (pv 2) pa_nil))) (pg_name (i := 6) sc_numbers.nd rfl (by first | exact Or.inl rfl | exact Or.inr rfl)) (pss_one (ps_while PassesOwn.never (PW.pt (pw_and (pt_cmpR op_eq (pe_op op_modN (pv 2) (pv 6)) pe_int (nomark _)) (pw_and1 (pt_val (pe_def d_lets (hr.mono (by decide)) (by rfl) (pa_cons (pv 0) (pa_cons (pv 3) (pa_cons (pv 4) (pa_cons (pe_op op_fdivN (pv 2) (pv 6)) (pa_cons (pv 5) pa_nil)))))))))) (pss_one (ps_set (i := 2) sc_numbers.nd rfl (by first | exact Or.inl rfl | exact Or.inr rfl) (pe_op op_fdivN (pv 2) (pv 6))))))) (pss_cons (ps_asg (pe_tup (pa_cons pe_int (pa_cons pe_int pa_nil))) (pgT K (n := 2) (pgs_cons (pg_name (i := 7) sc_numbers.nd rfl (by first | exact Or.inl rfl | exact Or.inr rfl)) (pgs_cons (pg_name (i := 8) sc_numbers.nd rfl (by first | exact Or.inl rfl | exact Or.inr rfl)) pgs_nil)))) (pss_cons (ps_while PassesOwn.never (pt_not (pt_val (pe_def d_lets (hr.mono (by decide)) (by rfl) (pa_cons (pv 0) (pa_cons (pv 3) (pa_cons (pv 7) (pa_cons (pv 2) (pa_cons (pv 5) pa_nil)))))))) (pss_one (ps_set (i := 7) sc_numbers.nd rfl (by first | exact Or.inl rfl | exact Or.inr rfl) (pe_op op_add (pv 7) pe_int)))) (pss_cons (ps_while PassesOwn.never (pt_not (pt_val (pe_def d_lets (hr.mono (by decide)) (by rfl) (pa_cons (pv 0) (pa_cons (pv 3) (pa_cons (pv 4) (pa_cons (pv 2) (pa_cons (pv 8) pa_nil)))))))) (pss_one (ps_set (i := 8) sc_numbers.nd rfl (by first | exact Or.inl rfl | exact Or.inr rfl) (pe_op op_add (pv 8) pe_int)))) (pss_one (ps_ret (pe_tup (pa_cons (pv 7) (pa_cons (pv 8) (pa_cons (pv 2) pa_nil)))))))))))))), ?_⟩
    refine ⟨_, rfl, G, _, gh, ⟨v, k, rows, rfl, hm, ok, hk, pre.rd, rfl⟩, fun rv G1 H1 e1 ⟨X, s0, p, hX, hp1, hp9, hper, d1⟩ => ?_⟩
    obtain ⟨ra, rx, rfl, hr1, hr2⟩ := dp_tuple d1
    obtain rfl : rx = [vI s0, vI p] := by
      cases hr2 with
      | cons h1 h2 =>
        cases h2 with
        | cons h3 h4 => cases h4; rw [dp_int h1, dp_int h3]
    refine ⟨ra, _, rfl, same_t e1.gh hr1, rfl, _, _, rfl, _, _, rfl, rfl, ?_⟩
    refine ⟨_, rfl, G1, _, e1.gh, ⟨v, k, rows, rfl, mac_up e1.gg hm, ok, rfl⟩, fun lv G2 H2 e2 ⟨X', Y, hX', hY, hlay⟩ => ?_⟩
    obtain rfl := settled_uniq hX hX'
    have e12 := e1.trans e2
    have hX9 := behF_few ok hX.1
    have hY9 := clsF_few ok hY.1
    obtain ⟨ly, lyx, rfl, hly, hlyx⟩ := dp_tuple hlay
    obtain ⟨u0, u1, rfl, hu0, hu1⟩ : ∃ u0 u1, lyx = [u0, u1] ∧ Dp K G2 u0 (eLR (layersTo (behF rows) X)) ∧ Dp K G2 u1 (eLR (layersTo (clsF rows) Y)) := by
      cases hlyx with
      | cons h1 h2 =>
        cases h2 with
        | cons h3 h4 => cases h4; exact ⟨_, _, rfl, h1, h3⟩
    obtain ⟨a0, x0, rfl, ha0, hx0⟩ := dp_list hu0
    obtain ⟨a1, x1, rfl, ha1, hx1⟩ := dp_list hu1
    have l0 : x0.length = X + 1 := by have := dpA_len hx0; simpa [layersTo] using this
    have l1 : x1.length = Y + 1 := by have := dpA_len hx1; simpa [layersTo] using this
    have ex0 : (x0.length : Int) - 1 = (X : Int) := by omega
    have ex1 : (x1.length : Int) - 1 = (Y : Int) := by omega
    refine ⟨_, rfl, ly, _, 0, .ref a0, rfl, rfl, same_t e12.gh hly, rfl, a0, x0, rfl, .inl (e12.gh.seq ha0), _, _, rfl, rfl, ?_⟩
    refine ⟨_, rfl, ly, _, 1, .ref a1, rfl, rfl, same_t e12.gh hly, rfl, a1, x1, rfl, .inl (e12.gh.seq ha1), _, _, rfl, rfl, vI X, vI Y, by show [V.int ((x0.length : Int) - 1), V.int ((x1.length : Int) - 1)] = _; rw [ex0, ex1], ?_⟩
    -- lets, asked of numbers
    have ask : ∀ {G' H'} (b s a : Nat), Ext [] G2 H2 G' H' → 1 ≤ s → s ≤ 10001 → ∀ {R : V → Hp → Prop}, (∀ G'' H'', Ext [] G' H' G'' H'' → R (.bl (letsF k rows b s a)) H'') → spLets K C [v, .ref ly, vI b, vI s, vI a] H' R E0 := fun {G' H'} b s a e hs1 hs9 R h =>
      ⟨G', _, e.gh, ⟨v, .ref ly, k, rows, X, Y, b, s, a, rfl, mac_up (e12.gg.trans e.gg) hm, ok, hk, dp_up e.gg hlay, hX, hY, by omega, by omega, hs1, hs9, rfl⟩, fun r G'' H'' e' hr => by rw [show r = _ from hr]; exact h G'' H'' e'⟩
    refine ⟨_, rfl, _, rfl, _, rfl, _, rfl, _, rfl, ask (G' := G2) X p Y (Ext.refl e2.gh) hp1 (by omega) fun G3 H3 e3 => ⟨_, rfl, ?_⟩⟩
    rcases pre.cs X Y hX hY with hno | ⟨d, hd1, hd, hdp⟩
    · refine iteTb (by rw [hno p hp1]; rfl) ?_
      exact q _ _ _ (e12.trans e3) ⟨none, ⟨X, Y, hX, hY, hno⟩, .non⟩
    · have hdvp : d ∣ p := hdp s0 p hp1 hper
      refine iteFb (by rw [(hd p hp1).mpr hdvp]; rfl) ?_
      refine ⟨_, rfl, G3, _, e3.gh, ⟨p, rfl, hp1, by omega, rfl⟩, fun fv G4 H4 e4 ⟨F, hF, hFl, d4⟩ => ?_⟩
      obtain ⟨fa, fx, rfl, hf1, hf2⟩ := d4
      obtain rfl := dpAll_ints hf2
      have e24 := e3.trans e4
      refine ⟨fa, rfl, ⟨_, .of (e4.gh _ _ hf1)⟩, for_it (walk_list (K := K) (a := fa) (xs := F.map vI)) (fun i σ H' => ∃ G' st v6, Ext [] G2 H2 G' H' ∧ L2.Same G4 G' ∧ 1 ≤ st ∧ st ∣ p ∧ d ∣ st ∧ (∀ qq ∈ F.take i, ¬ qq * d ∣ st) ∧ σ = [some v, some (vI s0), some (vI st), some (.ref ly), some (vI X), some (vI Y), v6, none, none])
        ⟨G4, p, none, e24, L2.Same.refl _, hp1, Nat.dvd_refl p, hdvp, fun x h => by simp at h, rfl⟩ (fun i σ H' _ ⟨G', _, _, e, g, _⟩ => .of ((g.trans e.gh) _ _ hf1)) ?_ ?_⟩
      · rintro i z σ H5 H6 hi ⟨G', st, v6, e, g4, hst1, hstp, hdst, hpr, rfl⟩ ⟨rfl, hz⟩
        rw [List.length_map] at hi
        obtain rfl : z = vI F[i] := by simp [hi] at hz; exact hz.symm
        obtain ⟨hq2, hqp⟩ := hF.1 _ (List.getElem_mem hi)
        have hqle := Nat.le_of_dvd (by omega) hqp
        refine ⟨fun m σ H' => ∃ G' st', Ext [] G2 H2 G' H' ∧ L2.Same G4 G' ∧ 1 ≤ st' ∧ st' ∣ st ∧ d ∣ st' ∧ m = st' ∧ σ = [some v, some (vI s0), some (vI st'), some (.ref ly), some (vI X), some (vI Y), some (vI F[i]), none, none],
          ⟨st, G', st, e, g4, hst1, Nat.dvd_refl _, hdst, rfl, rfl⟩, ?_⟩
        rintro m σ H7 ⟨G5, st', e5, g5, hs1, hsd, hds, hm, rfl⟩
        subst m
        have hsp : st' ∣ p := Nat.dvd_trans hsd hstp
        have hsle := Nat.le_of_dvd (by omega) hsp
        have out : ¬ F[i] * d ∣ st' → ∃ G' st_1 v6, Ext [] G2 H2 G' H7 ∧ L2.Same G4 G' ∧ 1 ≤ st_1 ∧ st_1 ∣ p ∧ d ∣ st_1 ∧ (∀ qq ∈ F.take (i + 1), ¬ qq * d ∣ st_1) ∧ [some v, some (vI s0), some (vI st'), some (.ref ly), some (vI X), some (vI Y), some (vI F[i]), none, none] = [some v, some (vI s0), some (vI st_1), some (.ref ly), some (vI X), some (vI Y), v6, none, none] := fun hn =>
          ⟨G5, st', _, e5, g5, hs1, hsp, hds, fun qq hqq => by
            rw [List.take_succ_eq_append_getElem hi] at hqq
            rcases List.mem_append.mp hqq with hqq | hqq
            · exact fun z => hpr qq hqq (Nat.dvd_trans z hsd)
            · rw [List.mem_singleton.mp hqq]; exact hn, rfl⟩
        refine ⟨_, rfl, _, rfl, _, _, rfl, rfl, by omega, rfl, _, rfl, ?_⟩
        by_cases hmod : st' % F[i] = 0
        · have hqd : F[i] ∣ st' := Nat.dvd_of_mod_eq_zero hmod
          obtain ⟨cc, hcc⟩ := hqd
          have hdiv : st' / F[i] = cc := by rw [hcc, Nat.mul_div_cancel_left _ (by omega)]
          have hc1 : 1 ≤ cc := by
            cases cc with
            | zero => simp at hcc; omega
            | succ n => omega
          have hcle : cc ≤ st' := by rw [hcc]; exact Nat.le_mul_of_pos_left _ (by omega)
          refine iteTb (dec_eq (by rw [fmod_nat]; omega)) ⟨_, rfl, _, rfl, _, rfl, _, rfl, _, rfl, _, _, rfl, rfl, ⟨by omega, by omega⟩, _, rfl, ?_⟩
          have eargs : ([v, .ref ly, vI X, V.int (Int.fdiv (st' : Int) (F[i] : Int)), vI Y] : List V) = [v, .ref ly, vI X, vI cc, vI Y] := by rw [fdiv_nat, hdiv]
          show spLets K C [v, .ref ly, vI X, V.int (Int.fdiv (st' : Int) (F[i] : Int)), vI Y] H7 _ E0
          rw [eargs]
          refine ask X cc Y e5 hc1 (by omega) fun G6 H6 e6 => ⟨_, rfl, ?_⟩
          by_cases hl : letsF k rows X cc Y = true
          · have hdc : d ∣ cc := (hd cc hc1).mp hl
            have hlt : cc < st' := by
              rw [hcc]
              have : 2 * cc ≤ F[i] * cc := Nat.mul_le_mul_right _ hq2
              omega
            refine iteTb hl ⟨fun σ' H' => _, fun _ _ h => h, ?_⟩
            refine ⟨_, rfl, _, rfl, _, _, rfl, rfl, ⟨by omega, by omega⟩, ?_⟩
            refine ⟨cc, hlt, G6, cc, e5.trans e6, g5.trans e6.gg, hc1, Nat.dvd_trans ⟨F[i], by rw [hcc, Nat.mul_comm]⟩ hsd, hdc, rfl, ?_⟩
            show [some v, some (vI s0), some (V.int (Int.fdiv (st' : Int) (F[i] : Int))), some (.ref ly), some (vI X), some (vI Y), some (vI F[i]), none, none] = _
            rw [fdiv_nat, hdiv]
          · refine iteFb (by simpa using hl) ?_
            have hn : ¬ F[i] * d ∣ st' := by
              rintro ⟨b, hb⟩
              have : cc = d * b := by
                have h1 : F[i] * cc = F[i] * (d * b) := by rw [← hcc, hb, Nat.mul_assoc]
                exact Nat.eq_of_mul_eq_mul_left (by omega) h1
              exact hl ((hd cc hc1).mpr ⟨b, this⟩)
            obtain ⟨_, st1, v6', _, _, h3, h4, h5, h6, h7⟩ := out hn
            exact ⟨G6, st1, v6', e5.trans e6, g5.trans e6.gg, h3, h4, h5, h6, h7⟩
        · refine iteFb (dec_ne (by rw [fmod_nat]; omega)) (out fun z => hmod ?_)
          exact Nat.mod_eq_zero_of_dvd (Nat.dvd_trans ⟨d, rfl⟩ z)
      · rintro σ H5 ⟨G', st, v6, e, g4, hst1, hstp, hdst, hpr, rfl⟩
        rw [List.length_map, List.take_length] at hpr
        obtain rfl : st = d := by
          obtain ⟨m, hm⟩ := hdst
          have hm1 : m = 1 := by
            apply Decidable.byContradiction
            intro z
            have hm0 : m ≠ 0 := by rintro rfl; simp at hm; omega
            obtain ⟨qq, hqq, hqm⟩ := hF.2 m (by omega) (Nat.dvd_trans ⟨d, by rw [hm, Nat.mul_comm]⟩ hstp)
            obtain ⟨b, hb⟩ := hqm
            exact hpr qq hqq ⟨b, by rw [hm, hb, ← Nat.mul_assoc, Nat.mul_comm d qq]⟩
          rw [hm, hm1, Nat.mul_one]
        have hsp := Nat.le_of_dvd (by omega) hstp
        refine ⟨by show 2 ≤ sizeLine; decide, fun t ht => ⟨t, _, rfl, .of upd_same, rfl, _, _, rfl, _, _, rfl, rfl, ?_⟩⟩
        have e6 := e.newM (o := .tup [.int 0, .int 0]) ht
        generalize upd H5 t (.tup [.int 0, .int 0]) = H6 at e6 ⊢
        have hXtrue : letsF k rows X st Y = true := (hd st hst1).mpr (Nat.dvd_refl _)
        refine ⟨fun m σ H' => ∃ G' a, Ext [] G2 H2 G' H' ∧ L2.Same G4 G' ∧ a ≤ X ∧ (∀ j, j < a → letsF k rows j st Y = false) ∧ m = X - a ∧ σ = [some v, some (vI s0), some (vI st), some (.ref ly), some (vI X), some (vI Y), v6, some (vI a), some (vI 0)],
          ⟨X, G', 0, e6, g4, Nat.zero_le _, fun j h => by omega, rfl, rfl⟩, ?_⟩
        rintro m σ H7 ⟨G7, a, e7, g7, haX, hla, rfl, rfl⟩
        refine ⟨_, rfl, _, rfl, _, rfl, _, rfl, _, rfl, ask a st Y e7 hst1 (by omega) fun G8 H8 e8 => ⟨_, rfl, ?_⟩⟩
        by_cases hl : letsF k rows a st Y = true
        · refine iteFb (by rw [hl]; rfl) ?_
          refine ⟨fun m σ H' => ∃ G' b, Ext [] G2 H2 G' H' ∧ L2.Same G4 G' ∧ b ≤ Y ∧ (∀ j, j < b → letsF k rows X st j = false) ∧ m = Y - b ∧ σ = [some v, some (vI s0), some (vI st), some (.ref ly), some (vI X), some (vI Y), v6, some (vI a), some (vI b)],
            ⟨Y, G8, 0, e7.trans e8, g7.trans e8.gg, Nat.zero_le _, fun j h => by omega, rfl, rfl⟩, ?_⟩
          rintro m σ H9 ⟨G9, b, e9, g9, hbY, hlb, rfl, rfl⟩
          refine ⟨_, rfl, _, rfl, _, rfl, _, rfl, _, rfl, ask X st b e9 hst1 (by omega) fun G10 H10 e10 => ⟨_, rfl, ?_⟩⟩
          by_cases hl2 : letsF k rows X st b = true
          · refine iteFb (by rw [hl2]; rfl) ⟨_, rfl, _, rfl, _, rfl, by show 3 ≤ sizeLine; decide, fun t ht => ?_⟩
            have e11 := (e12.trans (e9.trans e10)).new (o := .tup [vI a, vI b, vI st]) ht
            exact q _ _ _ e11 ⟨some (a, b, st), ⟨X, Y, hX, hY, hst1, hd, hl, hla, hl2, hlb⟩, .tup (.of upd_same) (.cons (.int _) (.cons (.int _) (.cons (.int _) .nil)))⟩
          · have hbY2 : b < Y := by
              apply Decidable.byContradiction
              intro z
              rw [show b = Y by omega] at hl2
              exact hl2 hXtrue
            refine iteTb (by simpa using hl2) ⟨fun σ' H' => _, fun _ _ h => h, _, rfl, _, _, rfl, rfl, Y - (b + 1), by omega, G10, b + 1, e9.trans e10, g9.trans e10.gg, by omega, fun j hj => ?_, rfl, rfl⟩
            by_cases z : j = b
            · rw [z]; simpa using hl2
            · exact hlb j (by omega)
        · have haX2 : a < X := by
            apply Decidable.byContradiction
            intro z
            rw [show a = X by omega] at hl
            exact hl hXtrue
          refine iteTb (by simpa using hl) ⟨fun σ' H' => _, fun _ _ h => h, _, rfl, _, _, rfl, rfl, X - (a + 1), by omega, G8, a + 1, e7.trans e8, g7.trans e8.gg, by omega, fun j hj => ?_, rfl, rfl⟩
          by_cases z : j = a
          · rw [z]; simpa using hl
          · exact hla j (by omega)
end
end K78

/-! text L1 -/
set_option Elab.async false
set_option linter.all false
set_option maxRecDepth 100000
set_option maxHeartbeats 4000000
namespace K78
open PySem PySem.Spec PyProof.Rows L2

/-! ### the source of draws -/
structure Deal (d l : Addr) (G H : Hp) : Prop where
  gd : G d = none
  gl : G l = none
  dl : d ≠ l
  m : ∃ (ns : List Int) (b : Int), H d = some (.lst [.ref l, .int b]) ∧ H l = some (.lst (ns.map V.int)) ∧ (∀ n ∈ ns, 0 ≤ n) ∧ ns.length ≤ 63 ∧ 0 ≤ b ∧ b < 2147483647
section
variable {d l : Addr} {G H G' H' : Hp}
theorem Deal.over (D : Deal d l G H) (e : Ext [] G H G' H') : Deal d l G' H' := by
  obtain ⟨ns, b, h1, h2, h3⟩ := D.m
  obtain ⟨a1, a2⟩ := e.keepM h1 D.gd (by simp)
  obtain ⟨b1, b2⟩ := e.keepM h2 D.gl (by simp)
  exact ⟨a2, b2, D.dl, ns, b, a1, b1, h3⟩
/-- what is given back -/
abbrev spD (K : PySem.W.Frag) (Pre : Hp → List V → (Hp → V → Prop) → Prop) : Sp := fun vs H Q _ => ∃ (d l : Addr) (G : Hp) (r : List V) (Post : Hp → V → Prop), vs = .ref d :: r ∧ L2.Same G H ∧ Deal d l G H ∧ Pre G r Post ∧ ∀ v G' H', Ext [d, l] G H G' H' → Deal d l G' H' → Post G' v → Q v H'
theorem Ext.dl (e : Ext [] G H G' H') : Ext [d, l] G H G' H' := e.up
end
theorem sh_ints (ns : List Int) : SeqAt.shaped (.list (ns.map PyData.int)) = true := by
  unfold SeqAt.shaped
  have h1 : (PyData.list (ns.map PyData.int)).canLay0 = true := by
    rw [PyData.canLay0]
    induction ns with
    | nil => rfl
    | cons r l ih => rw [List.map_cons, PyData.canLayAll0, ih]; rfl
  have h2 : (PyData.list (ns.map PyData.int)).depth ≤ 1 := by
    rw [PyData.depth, PySem.W.depth_ints]; exact Nat.le_refl _
  rw [h1, decide_eq_true (by omega)]; rfl
theorem dpA_int (K : PySem.W.Frag) (H : Hp) : ∀ (ns : List Int), DpAll K H (ns.map V.int) (ns.map PyData.int)
  | [] => .nil
  | _ :: r => .cons (.int _) (dpA_int K H r)
theorem eqv_nil (ns : List Int) : PyData.eqv (.list (ns.map PyData.int)) (.list []) = decide (ns = []) := by
  cases ns with
  | nil => rfl
  | cons a r => simp [PyData.eqv, PyData.eqvAll]
section
variable {P : Program} {w : World} {K : PySem.W.Frag} {mg : Str → Option Value} {base : Heap} {C : Addr}
def spAny (K : PySem.W.Frag) : Sp := spD K fun G r Post => ∃ n : Nat, r = [vI n] ∧ 1 ≤ n ∧ n ≤ 1000000 ∧ Post = fun _ v => ∃ x, x < n ∧ v = vI x
theorem sc_l_any : FnScope ["_law_deal", "_law_bound", "_law_rest"] ["_law_deal", "_law_bound"] (defScope s_l_any) := ⟨rfl, rfl, rfl, by decide +kernel, rfl, by decide +kernel, by decide +kernel⟩
theorem ok_l_any (T : Txt K mg C) (F : HasD K mg "_law_any" s_l_any) : Def P w K mg base "_law_any" 1 ["_law_deal", "_law_bound"] (spAny K) := by
  refine mkDef F sc_l_any (fun _ _ _ _ _ _ us hl => match us, hl with | [_, _], _ => rfl) (fun vs H Q E h => ?_) fun f cdv A outer s H vs Q E hr h => ?_
  · obtain ⟨d, l, G, r, Post, rfl, _, _, ⟨n, rfl, _⟩, _⟩ := h
    rfl
  · obtain ⟨d, l, G, r, Post, rfl, gh, D, ⟨n, rfl, hn1, hn9, rfl⟩, q⟩ := h
    refine ⟨_, (pss_cons (ps_while PassesOwn.never (PW.pt (pw_and (pt_cmpR (neD K (hu64 hr)) (pe_ix (ixL K) (pv 0) pe_int (fun _ _ => rfl)) (pe_lst pa_nil) (nomark _)) (pw_and1 (pt_cmpR op_eq (pe_ix (ixL K) (pe_ix (ixL K) (pv 0) pe_int (fun _ _ => rfl)) (pe_un un_neg pe_int) (fun _ _ => rfl)) pe_int (nomark _))))) (pss_one (ps_expr (pe_bm0 PySem.F.plainAttrs_list PySem.F.slot_list_pop PySem.F.type_list_pop mt_pop (pe_ix (ixL K) (pv 0) pe_int (fun _ _ => rfl)))))) (pss_cons (ps_if (pt_cmpR (neD K (hu64 hr)) (pe_ix (ixL K) (pv 0) pe_int (fun _ _ => rfl)) (pe_lst pa_nil) (nomark _)) (pss_cons (ps_set (i := 2) sc_l_any.nd rfl (by first | exact Or.inl rfl | exact Or.inr rfl) (pe_callTy call_int1 (by rfl) T.f_int (by decide +kernel) (pa_cons (pe_bm0 PySem.F.plainAttrs_list PySem.F.slot_list_pop PySem.F.type_list_pop mt_pop (pe_ix (ixL K) (pv 0) pe_int (fun _ _ => rfl))) pa_nil))) (pss_cons (ps_expr (pe_bm PySem.F.plainAttrs_list PySem.F.slot_list_append PySem.F.type_list_append mt_append (pe_ix (ixL K) (pv 0) pe_int (fun _ _ => rfl)) (pa_cons (pe_op op_fdivN (pv 2) (pv 1)) pa_nil))) (pss_one (ps_ret (pe_op op_modN (pv 2) (pv 1)))))) pss_nil) (pss_cons (ps_asg (pe_op op_modN (pe_callTy call_int1 (by rfl) T.f_int (by decide +kernel) (pa_cons (pe_op op_add (pe_op op_mul (pe_ix (ixL K) (pv 0) pe_int (fun _ _ => rfl)) pe_int) pe_int) pa_nil)) pe_int) (pg_sub (pv 0) pe_int set_list)) (pss_one (ps_ret (pe_op op_modN (pe_callTy call_int1 (by rfl) T.f_int (by decide +kernel) (pa_cons (pe_op op_fdivN (pe_ix (ixL K) (pv 0) pe_int (fun _ _ => rfl)) pe_int) pa_nil)) (pv 1))))))), ?_⟩
    refine ⟨fun m σ H' => ∃ (G' : Hp) (ns : List Int) (b : Int), Ext [d, l] G H G' H' ∧ Deal d l G' H' ∧ H' d = some (.lst [.ref l, .int b]) ∧ H' l = some (.lst (ns.map V.int)) ∧ (∀ x ∈ ns, 0 ≤ x) ∧ ns.length ≤ 63 ∧ 0 ≤ b ∧ b < 2147483647 ∧ m = ns.length ∧ σ = [some (.ref d), some (vI n), none],
      by obtain ⟨ns, b, h1, h2, h3, h4, h5, h6⟩ := D.m; exact ⟨_, G, ns, b, Ext.refl gh, D, h1, h2, h3, h4, h5, h6, rfl, rfl⟩, ?_⟩
    rintro m σ H1 ⟨G1, ns, b, e1, D1, h1, h2, h3, h4, h5, h6, rfl, rfl⟩
    have dp2 : ∀ {H'}, H' l = some (.lst (ns.map V.int)) → Dp K H' (.ref l) (.list (ns.map PyData.int)) := fun h => .lst (.of h) (dpA_int K _ ns)
    refine ⟨_, rfl, d, _, 0, .ref l, rfl, rfl, .of h1, rfl, by show 0 ≤ sizeLine; decide, fun p hp => ?_⟩
    have npd : d ≠ p := fun z => by rw [← z, h1] at hp; cases hp
    have npl : l ≠ p := fun z => by rw [← z, h2] at hp; cases hp
    have h1p : upd H1 p (.lst []) d = some (.lst [.ref l, .int b]) := by rw [upd_ne npd]; exact h1
    have h2p : upd H1 p (.lst []) l = some (.lst (ns.map V.int)) := by rw [upd_ne npl]; exact h2
    refine ⟨_, _, dp2 h2p, .lst (.of upd_same) .nil, sh_ints ns, rfl, _, rfl, ?_⟩
    rw [eqv_nil]
    have e2 := e1.newM (o := .lst []) hp
    have D2 : Deal d l G1 (upd H1 p (.lst [])) := ⟨D1.gd, D1.gl, D1.dl, ns, b, h1p, h2p, h3, h4, h5, h6⟩
    generalize upd H1 p (.lst []) = H2 at e2 D2 h1p h2p
    have mem_d : d ∈ [d, l] := by simp
    have mem_l : l ∈ [d, l] := by simp
    by_cases hns : ns = []
    · subst hns
      refine iteFb (by simp) ?_
      -- the second source
      refine ⟨_, rfl, d, _, 0, .ref l, rfl, rfl, .of h1p, rfl, by show 0 ≤ sizeLine; decide, fun p' hp' => ?_⟩
      have npd' : d ≠ p' := fun z => by rw [← z, h1p] at hp'; cases hp'
      have npl' : l ≠ p' := fun z => by rw [← z, h2p] at hp'; cases hp'
      have h1q : upd H2 p' (.lst []) d = some (.lst [.ref l, .int b]) := by rw [upd_ne npd']; exact h1p
      have h2q : upd H2 p' (.lst []) l = some (.lst []) := by rw [upd_ne npl']; exact h2p
      have e3 := e2.newM (o := .lst []) hp'
      refine ⟨.list [], .list [], .lst (.of h2q) .nil, .lst (.of upd_same) .nil, rfl, rfl, _, rfl, iteFb rfl ?_⟩
      generalize upd H2 p' (.lst []) = H3 at e3 h1q h2q ⊢
      refine ⟨_, rfl, d, _, 1, .int b, rfl, rfl, .of h1q, rfl, _, _, rfl, rfl, .inr ⟨by omega, by omega⟩, _, _, rfl, rfl, .inl ⟨_, rfl, _, _, rfl, rfl, by omega, ?_⟩⟩
      have hb2' : 0 ≤ (Int.fmod (b * 40693 + 71) 2147483647) ∧ (Int.fmod (b * 40693 + 71) 2147483647) < 2147483647 := by
        rw [Int.fmod_eq_emod_of_nonneg _ (by omega)]
        omega
      refine ⟨_, rfl, d, [.ref l, .int b], 1, 1, rfl, rfl, h1q, rfl, ?_⟩
      have e4 := e3.mut (o := .lst [.ref l, .int (Int.fmod (b * 40693 + 71) 2147483647)]) (.inr mem_d) D2.gd
      have h1r : upd H3 d (.lst [.ref l, .int (Int.fmod (b * 40693 + 71) 2147483647)]) d = some (.lst [.ref l, .int (Int.fmod (b * 40693 + 71) 2147483647)]) := upd_same
      have h2r : upd H3 d (.lst [.ref l, .int (Int.fmod (b * 40693 + 71) 2147483647)]) l = some (.lst []) := by rw [upd_ne (Ne.symm D2.dl)]; exact h2q
      refine ⟨_, rfl, d, _, 1, .int (Int.fmod (b * 40693 + 71) 2147483647), rfl, rfl, .of h1r, rfl, _, _, rfl, rfl, ⟨by omega, by omega⟩, .inl ⟨_, rfl, _, rfl, _, _, rfl, rfl, by omega, ?_⟩⟩
      refine q _ _ _ e4 ⟨D2.gd, D2.gl, D2.dl, [], (Int.fmod (b * 40693 + 71) 2147483647), h1r, h2r, fun x h => by simp at h, by simp, hb2'.1, hb2'.2⟩ ⟨(Int.fmod (Int.fdiv (Int.fmod (b * 40693 + 71) 2147483647) 64) n).toNat, ?_, ?_⟩
      · rw [Int.fmod_eq_emod_of_nonneg _ (by omega)]
        have := Int.emod_lt_of_pos (Int.fdiv (Int.fmod (b * 40693 + 71) 2147483647) 64) (show (0 : Int) < n by omega)
        have := Int.emod_nonneg (Int.fdiv (Int.fmod (b * 40693 + 71) 2147483647) 64) (show (n : Int) ≠ 0 by omega)
        omega
      · show V.int (Int.fmod (Int.fdiv (Int.fmod (b * 40693 + 71) 2147483647) 64) n) = V.int _
        rw [Int.fmod_eq_emod_of_nonneg _ (by omega)]
        have := Int.emod_nonneg (Int.fdiv (Int.fmod (b * 40693 + 71) 2147483647) 64) (show (n : Int) ≠ 0 by omega)
        congr 1
        omega
    · obtain ⟨ms, z, rfl⟩ : ∃ ms z, ns = ms ++ [z] := ⟨ns.dropLast, ns.getLast hns, (List.dropLast_concat_getLast hns).symm⟩
      have hz0 : 0 ≤ z := h3 z (by simp)
      have hm0 : ∀ x ∈ ms, 0 ≤ x := fun x hx => h3 x (by simp [hx])
      have hml : ms.length + 1 ≤ 63 := by simpa using h4
      have hmap : (ms ++ [z]).map V.int = ms.map V.int ++ [V.int z] := by simp
      rw [hmap] at h2p
      refine iteTb (by simp) ⟨_, rfl, d, _, 0, .ref l, rfl, rfl, .of h1p, rfl, _, rfl, l, _, -1, .int z, rfl, rfl, .of h2p, atI_last _ _, rfl, _, rfl, ?_⟩
      have popped : ∀ {o}, upd H2 l o = upd H2 l o := rfl
      by_cases hz : z = 0
      · refine iteTb (dec_eq hz) ⟨fun σ' H' => _, fun _ _ h => h, ?_⟩
        refine ⟨_, rfl, d, _, 0, .ref l, rfl, rfl, .of h1p, rfl, .inl ⟨rfl, _, .of h2p⟩, l, _, .int z, rfl, rfl, h2p, by rw [show (ms.map V.int ++ [V.int z]).length - 1 = (ms.map V.int).length by simp, List.getElem?_append_right (Nat.le_refl _), Nat.sub_self]; rfl, ?_⟩
        rw [List.dropLast_concat]
        have h1r : upd H2 l (.lst (ms.map V.int)) d = some (.lst [.ref l, .int b]) := by rw [upd_ne D2.dl]; exact h1p
        exact ⟨ms.length, by simp, G1, ms, b, e2.mut (.inr mem_l) D2.gl, ⟨D2.gd, D2.gl, D2.dl, ms, b, h1r, upd_same, hm0, by omega, h5, h6⟩, h1r, upd_same, hm0, by omega, h5, h6, rfl, rfl⟩
      · refine iteFb (dec_ne hz) ?_
        refine ⟨_, rfl, d, _, 0, .ref l, rfl, rfl, .of h1p, rfl, by show 0 ≤ sizeLine; decide, fun p' hp' => ?_⟩
        have npd' : d ≠ p' := fun z => by rw [← z, h1p] at hp'; cases hp'
        have npl' : l ≠ p' := fun z => by rw [← z, h2p] at hp'; cases hp'
        have h1q : upd H2 p' (.lst []) d = some (.lst [.ref l, .int b]) := by rw [upd_ne npd']; exact h1p
        have h2q : upd H2 p' (.lst []) l = some (.lst (ms.map V.int ++ [V.int z])) := by rw [upd_ne npl']; exact h2p
        have e3 := e2.newM (o := .lst []) hp'
        refine ⟨_, _, .lst (.of (by rw [h2q, ← hmap])) (dpA_int K _ (ms ++ [z])), .lst (.of upd_same) .nil, sh_ints _, rfl, _, rfl, iteTb (by rw [eqv_nil]; simp) ?_⟩
        generalize upd H2 p' (.lst []) = H3 at e3 h1q h2q ⊢
        refine ⟨_, rfl, d, _, 0, .ref l, rfl, rfl, .of h1q, rfl, .inl ⟨rfl, _, .of h2q⟩, l, _, .int z, rfl, rfl, h2q, by rw [show (ms.map V.int ++ [V.int z]).length - 1 = (ms.map V.int).length by simp, List.getElem?_append_right (Nat.le_refl _), Nat.sub_self]; rfl, .inl ⟨z, rfl, ?_⟩⟩
        rw [List.dropLast_concat]
        have e4 := e3.mut (o := .lst (ms.map V.int)) (.inr mem_l) D2.gl
        have h1r : upd H3 l (.lst (ms.map V.int)) d = some (.lst [.ref l, .int b]) := by rw [upd_ne D2.dl]; exact h1q
        have h2r : upd H3 l (.lst (ms.map V.int)) l = some (.lst (ms.map V.int)) := upd_same
        generalize upd H3 l (.lst (ms.map V.int)) = H4 at e4 h1r h2r ⊢
        refine ⟨_, rfl, d, _, 0, .ref l, rfl, rfl, .of h1r, rfl, .inl ⟨rfl, _, .of h2r⟩, _, rfl, _, rfl, _, _, rfl, rfl, ⟨by omega, by omega⟩, l, _, _, rfl, rfl, h2r, by rw [List.length_map]; exact Nat.lt_of_le_of_lt (show ms.length ≤ 100 by omega) (by decide), ?_⟩
        have hq0 : 0 ≤ Int.fdiv z n := by rw [Int.fdiv_eq_ediv_of_nonneg _ (by omega)]; exact Int.ediv_nonneg hz0 (by omega)
        have hmap2 : ms.map V.int ++ [V.int (Int.fdiv z n)] = (ms ++ [Int.fdiv z n]).map V.int := by simp
        have e5 := e4.mut (o := .lst (ms.map V.int ++ [V.int (Int.fdiv z n)])) (.inr mem_l) D2.gl
        refine ⟨_, rfl, _, rfl, _, _, rfl, rfl, by omega, ?_⟩
        refine q _ _ _ e5 ⟨D2.gd, D2.gl, D2.dl, ms ++ [Int.fdiv z n], b, by rw [upd_ne D2.dl]; exact h1r, by rw [← hmap2]; exact upd_same, fun x hx => ?_, by simp; omega, h5, h6⟩ ⟨(Int.fmod z n).toNat, ?_, ?_⟩
        · rcases List.mem_append.mp hx with hx | hx
          · exact hm0 x hx
          · rw [List.mem_singleton.mp hx]; exact hq0
        · rw [Int.fmod_eq_emod_of_nonneg _ (by omega)]
          have := Int.emod_lt_of_pos z (show (0 : Int) < n by omega)
          have := Int.emod_nonneg z (show (n : Int) ≠ 0 by omega)
          omega
        · show V.int (Int.fmod z n) = V.int _
          rw [Int.fmod_eq_emod_of_nonneg _ (by omega)]
          have := Int.emod_nonneg z (show (n : Int) ≠ 0 by omega)
          congr 1
          omega
end
end K78

/-! text L2 -/
set_option Elab.async false
set_option linter.all false
set_option maxRecDepth 100000
set_option maxHeartbeats 4000000
namespace K78
open PySem PySem.Spec PyProof.Rows L2
section
variable {P : Program} {w : World} {K : PySem.W.Frag} {mg : Str → Option Value} {base : Heap} {C : Addr}
theorem Deal.ne {d l p : Addr} {G H : Hp} (D : Deal d l G H) (hp : H p = none) : p ∉ [d, l] := by
  obtain ⟨ns, b, h1, h2, _⟩ := D.m
  intro h
  simp at h
  rcases h with rfl | rfl
  · rw [h1] at hp; cases hp
  · rw [h2] at hp; cases hp
/-! ### _law_draw -/
def spDraw (K : PySem.W.Frag) : Sp := fun vs H Q _ => ∃ (a : Addr) (ns : List Int) (G : Hp), vs = [.ref a, .int 78] ∧ L2.Same G H ∧ SqL K G a (ns.map V.int) ∧ ns.length ≤ 63 ∧ ∀ d l G' H', Ext [] G H G' H' → H d = none → H l = none → Deal d l G' H' → Q (.ref d) H'
theorem cutV_ints (ns : List Int) (lo hi : Option Int) : ∃ ms : List Int, cutV (ns.map V.int) lo hi = ms.map V.int ∧ ms.length ≤ ns.length := by
  unfold cutV
  rw [← List.map_drop, ← List.map_take]
  exact ⟨_, rfl, by rw [List.length_take, List.length_drop]; omega⟩
theorem sc_l_draw : FnScope ["_law_script", "_law_salt", "_law_cells", "_law_blend", "_law_cell"] ["_law_script", "_law_salt"] (defScope s_l_draw) := ⟨rfl, rfl, rfl, by decide +kernel, rfl, by decide +kernel, by decide +kernel⟩
theorem ok_l_draw (T : Txt K mg C) (F : HasD K mg "_law_draw" s_l_draw) : Def P w K mg base "_law_draw" 1 ["_law_script", "_law_salt"] (spDraw K) := by
  refine mkDef F sc_l_draw (fun _ _ _ _ _ _ us hl => match us, hl with | [_, _], _ => rfl) (fun vs H Q E h => ?_) fun f cdv A outer s H vs Q E hr h => ?_
  · obtain ⟨a, ns, G, rfl, _⟩ := h
    rfl
  · obtain ⟨a, ns, G, rfl, gh, ha, hns, q⟩ := h
    refine ⟨_, (pss_cons (ps_setLc (i := 2) (own := [("_law_cell", 4)]) rfl sc_l_draw.nd rfl rfl (sw_true rfl rfl rfl (by decide +kernel)) (piL K (pe_slice (slL K) (pv 0) po_none (po_some pe_int))) (blkOk_by (own := [("_law_cell", 4)]) (by kernel_rfl)) (fun _ _ _ _ _ => (pg_name (i := 4) sc_l_draw.nd rfl (by first | exact Or.inl rfl | exact Or.inr rfl))) (fun _ _ _ _ _ => pts_nil) (fun _ _ _ _ _ => (pe_callB call_abs (by rfl) T.f_abs (by decide +kernel) (pa_cons (pe_callTy call_int1 (by rfl) T.f_int (by decide +kernel) (pa_cons (pv 4) pa_nil)) pa_nil)))) (pss_cons (ps_set (i := 3) sc_l_draw.nd rfl (by first | exact Or.inl rfl | exact Or.inr rfl) (pe_op op_add pe_int (pe_op op_mul pe_int (pv 1)))) (pss_cons (ps_for PassesOwn.never rfl (piL K (pv 2)) (pg_name (i := 4) sc_l_draw.nd rfl (by first | exact Or.inl rfl | exact Or.inr rfl)) (pss_one (ps_set (i := 3) sc_l_draw.nd rfl (by first | exact Or.inl rfl | exact Or.inr rfl) (pe_op op_modN (pe_callTy call_int1 (by rfl) T.f_int (by decide +kernel) (pa_cons (pe_op op_add (pe_op op_add (pe_op op_mul (pv 3) pe_int) (pe_op op_modN (pv 4) pe_int)) pe_int) pa_nil)) pe_int)))) (pss_one (ps_ret (pe_lst (pa_cons (revL K (pe_lc (own := [("_law_cell", 4)]) rfl sc_l_draw.nd (piL K (pv 2)) (blkOk_by (own := [("_law_cell", 4)]) (by kernel_rfl)) (fun _ _ _ _ _ => (pg_name (i := 4) sc_l_draw.nd rfl (by first | exact Or.inl rfl | exact Or.inr rfl))) (fun _ _ _ _ _ => (pts_one (pt_cmpR op_ge (pv 4) (pe_op op_pow pe_int pe_int) (nomark _)))) (fun _ _ _ _ _ => (pv 4)))) (pa_cons (pv 3) pa_nil)))))))), ?_⟩
    obtain ⟨ms, hms, hml⟩ := cutV_ints ns none (some 48)
    refine ⟨_, rfl, _, rfl, a, _, rfl, gh.seq ha, fun p hp => ⟨p, rfl, ⟨_, .of upd_same⟩, fun D hD => ?_⟩⟩
    rw [hms]
    have e1 := (Ext.refl (X := []) gh).new (o := .lst (ms.map V.int)) hp
    have hp1 : upd G p (.lst (ms.map V.int)) p = some (.lst (ms.map V.int)) := upd_same
    have hD1 : upd H p (.lst (ms.map V.int)) D = none := by rw [hms] at hD; exact hD
    clear hD
    generalize upd G p (.lst (ms.map V.int)) = G1 at e1 hp1
    generalize upd H p (.lst (ms.map V.int)) = H1 at e1 hD1 ⊢
    refine lc_it (walk_list (K := K) (a := p) (xs := ms.map V.int)) (fun i H' => ∃ (G' : Hp) (cs : List Int), Ext [] G1 H1 G' H' ∧ G' D = none ∧ H' D = some (.lst (cs.map V.int)) ∧ cs.length = i ∧ ∀ c ∈ cs, (0 : Int) ≤ c)
      ⟨G1, [], (Ext.refl e1.gh).newM hD1, e1.gh.free hD1, upd_same, rfl, fun c h => by simp at h⟩ (fun i H' _ ⟨G', _, e, _⟩ => .of ((e.gg.trans e.gh) _ _ hp1)) ?_ ?_
    · rintro i x H2 H3 hi ⟨G', cs, e, hg, h1, h2, h3⟩ ⟨rfl, hx⟩
      rw [List.length_map] at hi
      obtain rfl : x = .int ms[i] := by simp [hi] at hx; exact hx.symm
      refine ⟨rfl, tYes_of (iteT ⟨_, rfl, .inl ⟨ms[i], rfl, ms[i], rfl, cs.map V.int, h1, by rw [List.length_map, h2]; exact Nat.lt_of_le_of_lt (show i ≤ 100 by omega) (by decide), G', cs ++ [if ms[i] < 0 then -ms[i] else ms[i]], e.mut (.inl hD1) hg, hg, ?_, by simp [h2], fun c hc => ?_⟩⟩)⟩
      · rw [upd_same]; simp
      · rcases List.mem_append.mp hc with hc | hc
        · exact h3 c hc
        · rw [List.mem_singleton.mp hc]
          split <;> omega
    · rintro H2 ⟨G2, cs, e2, hg2, h1, h2, h3⟩
      have e12 := e1.trans (e2.pub hD1 hg2 h1)
      have hD2 : upd G2 D (.lst (cs.map V.int)) D = some (.lst (cs.map V.int)) := upd_same
      generalize upd G2 D (.lst (cs.map V.int)) = G3 at e12 hD2
      rw [List.length_map] at h2
      refine ⟨_, rfl, _, _, rfl, rfl, .inl ⟨by omega, by omega⟩, _, _, rfl, rfl, ?_⟩
      refine ⟨_, rfl, D, rfl, ⟨_, .of (e12.gh _ _ hD2)⟩, for_it (walk_list (K := K) (a := D) (xs := cs.map V.int)) (fun i σ H' => ∃ (b : Int) (v4 : Option V), H' = H2 ∧ 0 ≤ b ∧ b < 2147483647 ∧ σ = [some (.ref a), some (.int 78), some (.ref D), some (.int b), v4])
        ⟨7919 + 104729 * 78, none, rfl, by omega, by omega, rfl⟩ (fun i σ H' _ ⟨_, _, e, _⟩ => by rw [e]; exact .of (e12.gh _ _ hD2)) ?_ ?_⟩
      · rintro i x σ H4 H5 hi ⟨b, v4, rfl, hb0, hb1, rfl⟩ ⟨rfl, hx⟩
        rw [List.length_map] at hi
        obtain rfl : x = .int cs[i] := by simp [hi] at hx; exact hx.symm
        refine ⟨_, rfl, _, _, rfl, rfl, .inr ⟨by omega, by omega⟩, _, rfl, _, _, rfl, rfl, by omega, _, _, rfl, rfl, _, _, rfl, rfl, .inl ⟨_, rfl, _, _, rfl, rfl, by omega, _, _, rfl, ?_, ?_, rfl⟩⟩
        · rw [Int.fmod_eq_emod_of_nonneg _ (by omega)]; omega
        · rw [Int.fmod_eq_emod_of_nonneg _ (by omega)]; omega
      · rintro σ H4 ⟨b, v4, rfl, hb0, hb1, rfl⟩
        refine ⟨_, rfl, D, rfl, ⟨_, .of (e12.gh _ _ hD2)⟩, fun D2 hD2' => lc_it (walk_list (K := K) (a := D) (xs := cs.map V.int)) (fun i H' => ∃ (cs2 : List Int), Ext [] G H G3 H' ∧ H' D2 = some (.lst (cs2.map V.int)) ∧ cs2.length ≤ i ∧ ∀ c ∈ cs2, (0 : Int) ≤ c)
          ⟨[], e12.newM hD2', upd_same, by simp, fun c h => by simp at h⟩ (fun i H' _ ⟨_, e, _⟩ => .of (e.gh _ _ hD2)) ?_ ?_⟩
        · rintro i x H5 H6 hi ⟨cs2, e, k1, k2, k3⟩ ⟨rfl, hx⟩
          rw [List.length_map] at hi
          obtain rfl : x = .int cs[i] := by simp [hi] at hx; exact hx.symm
          have hc0 := h3 _ (List.getElem_mem hi)
          refine ⟨rfl, _, rfl, _, _, rfl, rfl, ⟨by omega, by omega, by decide⟩, _, _, rfl, rfl, _, rfl, ?_⟩
          by_cases hge : (10 : Int) ^ (18 : Int).toNat ≤ cs[i]
          · refine iteTb (decide_eq_true hge) ⟨_, rfl, cs2.map V.int, k1, by rw [List.length_map]; exact Nat.lt_of_le_of_lt (show cs2.length ≤ 100 by omega) (by decide), cs2 ++ [cs[i]], e.mut (.inl (e12.base hD2')) (e12.gh.free hD2'), ?_, by simp; omega, fun c hc => ?_⟩
            · rw [upd_same]; simp
            · rcases List.mem_append.mp hc with hc | hc
              · exact k3 c hc
              · rw [List.mem_singleton.mp hc]; exact hc0
          · refine iteFb (decide_eq_false hge) ⟨cs2, e, k1, by omega, k3⟩
        · rintro H5 ⟨cs2, e, k1, k2, k3⟩
          rw [List.length_map] at k2
          refine ⟨D2, _, rfl, .of k1, fun l hl => ⟨_, rfl, by show 2 ≤ sizeLine; decide, fun d hd => ?_⟩⟩
          have hne : l ≠ d := fun z => by rw [z, upd_same] at hd; cases hd
          have hd0 : H5 d = none := by rw [upd_ne (Ne.symm hne)] at hd; exact hd
          rw [← List.map_reverse] at hd ⊢
          have e6 := (e.newM (o := .lst (cs2.reverse.map V.int)) hl).newM (o := .lst [.ref l, .int b]) hd
          exact q d l G3 _ e6 (e.base hd0) (e.base hl) ⟨e.gh.free hd0, e.gh.free hl, Ne.symm hne, cs2.reverse, b, upd_same, by rw [upd_ne hne, upd_same], fun c hc => k3 c (List.mem_reverse.mp hc), by rw [List.length_reverse]; omega, hb0, hb1⟩
end
end K78

/-! text L3 -/
set_option Elab.async false
set_option linter.all false
set_option maxRecDepth 100000
set_option maxHeartbeats 4000000
namespace K78
open PySem PySem.Spec PyProof.Rows L2
theorem erase_map {α β : Type} (f : α → β) : ∀ (l : List α) (i : Nat), (l.map f).eraseIdx i = (l.eraseIdx i).map f
  | [], _ => rfl
  | _ :: _, 0 => rfl
  | a :: l, i + 1 => by simp only [List.map_cons, List.eraseIdx_cons_succ, erase_map f l i]
theorem erase_perm {α : Type} : ∀ {l : List α} {i : Nat} (h : i < l.length), (l[i] :: l.eraseIdx i).Perm l
  | [], _, h => by simp at h
  | _ :: _, 0, _ => List.Perm.refl _
  | a :: l, i + 1, h => by
    have ih := erase_perm (l := l) (i := i) (by simpa using h)
    exact (List.Perm.swap a _ _).trans (ih.cons a)
theorem sh_nats (l : List Nat) : SeqAt.shaped (eL l) = true := by
  have e : l.map eI = (asI l).map PyData.int := by rw [List.map_map]; rfl
  show SeqAt.shaped (.list (l.map eI)) = true
  rw [e]; exact sh_ints _
theorem eqv_nils (l : List Nat) : PyData.eqv (eL l) (.list []) = decide (l = []) := by
  cases l with
  | nil => rfl
  | cons a r => simp [PyData.eqv, PyData.eqvAll]
theorem seqIx {n j : Nat} (h : j < n) : seqIndex? (j : Int) n = some j := (ixN_seq (n := n) (i := (j : Int)) (j := j) (by unfold ixN; rw [if_pos (by omega), if_pos (by omega)]; simp)).1
section
variable {P : Program} {w : World} {K : PySem.W.Frag} {mg : Str → Option Value} {base : Heap} {C : Addr}
/-! ### _law_of -/
def spOf (K : PySem.W.Frag) : Sp := spD K fun G r Post => ∃ (u : V) (l : List Nat), r = [u] ∧ Dp K G u (eL l) ∧ l ≠ [] ∧ l.length ≤ 1000 ∧ Post = fun _ v => ∃ x ∈ l, v = vI x
theorem sc_l_of : FnScope ["_law_deal", "_law_some"] ["_law_deal", "_law_some"] (defScope s_l_of) := ⟨rfl, rfl, rfl, by decide +kernel, rfl, by decide +kernel, by decide +kernel⟩
theorem ok_l_of (T : Txt K mg C) (F : HasD K mg "_law_of" s_l_of) (d_l_any : Def P w K mg base "_law_any" 1 ["_law_deal", "_law_bound"] (spAny K)) : Def P w K mg base "_law_of" 2 ["_law_deal", "_law_some"] (spOf K) := by
  refine mkDef F sc_l_of (fun _ _ _ _ _ _ us hl => match us, hl with | [_, _], _ => rfl) (fun vs H Q E h => ?_) fun f cdv A outer s H vs Q E hr h => ?_
  · obtain ⟨d, l, G, r, Post, rfl, _, _, ⟨u, li, rfl, _⟩, _⟩ := h
    rfl
  · obtain ⟨d, l, G, r, Post, rfl, gh, D, ⟨u, li, rfl, hu, hne, hl9, rfl⟩, q⟩ := h
    refine ⟨_, (pss_one (ps_ret (pe_ix (ixL K) (pv 1) (pe_def d_l_any (hr.mono (by decide)) (by rfl) (pa_cons (pv 0) (pa_cons (pe_callB (lenS K) (by rfl) T.f_len (by decide +kernel) (pa_cons (pv 1) pa_nil)) pa_nil))) (fun _ _ => rfl)))), ?_⟩
    obtain ⟨a, xs, rfl, ha, hxs⟩ := dp_list hu
    obtain rfl := dpAll_ints hxs
    have hpos : 0 < li.length := List.length_pos_iff.mpr hne
    refine ⟨_, rfl, _, rfl, _, rfl, a, _, rfl, .inl (gh.seq ha), d, l, G, _, _, rfl, gh, D, ⟨li.length, by rw [List.length_map], hpos, by omega, rfl⟩, fun v G1 H1 e1 D1 ⟨x, hx, hv⟩ => ?_⟩
    subst hv
    refine rd_ixL (dp_up e1.gg hu) e1.gh (d := eI li[x]) (by simp [hx]) fun u1 hu1 => ?_
    rw [dp_int hu1]
    exact q _ _ _ e1 D1 ⟨li[x], List.getElem_mem hx, rfl⟩
/-! ### _law_mixed -/
def spMixed (K : PySem.W.Frag) : Sp := spD K fun G r Post => ∃ (u : V) (l : List Nat), r = [u] ∧ Dp K G u (eL l) ∧ l.length ≤ 1000 ∧ Post = fun G' v => ∃ m : List Nat, m.Perm l ∧ Ld K G' v (m.map eI)
theorem sc_l_mixed : FnScope ["_law_deal", "_law_some", "_law_left", "_law_found"] ["_law_deal", "_law_some"] (defScope s_l_mixed) := ⟨rfl, rfl, rfl, by decide +kernel, rfl, by decide +kernel, by decide +kernel⟩
theorem ok_l_mixed (T : Txt K mg C) (F : HasD K mg "_law_mixed" s_l_mixed) (d_l_any : Def P w K mg base "_law_any" 1 ["_law_deal", "_law_bound"] (spAny K)) : Def P w K mg base "_law_mixed" 2 ["_law_deal", "_law_some"] (spMixed K) := by
  refine mkDef F sc_l_mixed (fun _ _ _ _ _ _ us hl => match us, hl with | [_, _], _ => rfl) (fun vs H Q E h => ?_) fun f cdv A outer s H vs Q E hr h => ?_
  · obtain ⟨d, l, G, r, Post, rfl, _, _, ⟨u, li, rfl, _⟩, _⟩ := h
    rfl
  · obtain ⟨d, l, G, r, Post, rfl, gh, D, ⟨u, li, rfl, hu, hl9, rfl⟩, q⟩ := h
    refine ⟨_, (pss_cons (ps_par (i := 2) (j := 3) rfl sc_l_mixed.nd rfl rfl (by decide) rfl rfl (pa_cons (pe_callTy (lstOf K) (by rfl) T.f_list (by decide +kernel) (pa_cons (pv 1) pa_nil)) (pa_cons (pe_lst pa_nil) pa_nil)) (by rfl)) (pss_cons (ps_while PassesOwn.never (pt_cmpR (neD K (hu64 hr)) (pv 2) (pe_lst pa_nil) (nomark _)) (pss_one (ps_expr (pe_bm PySem.F.plainAttrs_list PySem.F.slot_list_append PySem.F.type_list_append mt_append (pv 3) (pa_cons (pe_bm PySem.F.plainAttrs_list PySem.F.slot_list_pop PySem.F.type_list_pop mt_popAt (pv 2) (pa_cons (pe_def d_l_any (hr.mono (by decide)) (by rfl) (pa_cons (pv 0) (pa_cons (pe_callB (lenS K) (by rfl) T.f_len (by decide +kernel) (pa_cons (pv 2) pa_nil)) pa_nil))) pa_nil)) pa_nil))))) (pss_one (ps_ret (pv 3))))), ?_⟩
    obtain ⟨a, xs, rfl, ha, hxs⟩ := dp_list hu
    obtain rfl := dpAll_ints hxs
    refine ⟨_, rfl, a, _, rfl, .inl (gh.seq ha), fun lf hlf => ⟨by show 0 ≤ sizeLine; decide, fun fo hfo => ⟨_, _, rfl, ?_⟩⟩⟩
    have hne : lf ≠ fo := fun z => by rw [z, upd_same] at hfo; cases hfo
    have hfo0 : H fo = none := by rw [upd_ne (Ne.symm hne)] at hfo; exact hfo
    have e0 : Ext [d, l] G H G (upd (upd H lf (.lst (li.map vI))) fo (.lst [])) := ((Ext.refl gh).newM hlf).newM hfo
    have nlf := D.ne hlf
    have nfo := D.ne hfo0
    have D0 : Deal d l G (upd (upd H lf (.lst (li.map vI))) fo (.lst [])) := D.over (((Ext.refl gh).newM hlf).newM hfo)
    have h1 : upd (upd H lf (.lst (li.map vI))) fo (.lst []) lf = some (.lst (li.map vI)) := by rw [upd_ne hne, upd_same]
    have h2 : upd (upd H lf (.lst (li.map vI))) fo (.lst []) fo = some (.lst []) := upd_same
    generalize upd (upd H lf (.lst (li.map vI))) fo (.lst []) = H0 at e0 D0 h1 h2
    refine ⟨fun m σ H' => ∃ (G' : Hp) (le fu : List Nat), Ext [d, l] G H G' H' ∧ Deal d l G' H' ∧ G' lf = none ∧ G' fo = none ∧ H' lf = some (.lst (le.map vI)) ∧ H' fo = some (.lst (fu.map vI)) ∧ (le ++ fu).Perm li ∧ m = le.length ∧ σ = [some (.ref d), some (.ref a), some (.ref lf), some (.ref fo)],
      ⟨_, G, li, [], e0, D0, gh.free hlf, gh.free hfo0, h1, h2, by simp, rfl, rfl⟩, ?_⟩
    rintro m σ H1 ⟨G1, le, fu, e1, D1, g1, g2, k1, k2, hp, rfl, rfl⟩
    have hlen := hp.length_eq
    rw [List.length_append] at hlen
    refine ⟨_, rfl, by show 0 ≤ sizeLine; decide, fun p hp' => ?_⟩
    have n1 : lf ≠ p := fun z => by rw [← z, k1] at hp'; cases hp'
    have n2 : fo ≠ p := fun z => by rw [← z, k2] at hp'; cases hp'
    have k1p : upd H1 p (.lst []) lf = some (.lst (le.map vI)) := by rw [upd_ne n1]; exact k1
    have k2p : upd H1 p (.lst []) fo = some (.lst (fu.map vI)) := by rw [upd_ne n2]; exact k2
    have e2 := e1.newM (o := .lst []) hp'
    have D2 : Deal d l G1 (upd H1 p (.lst [])) := D1.over ((Ext.refl e1.gh).newM hp')
    refine ⟨eL le, .list [], .lst (.of k1p) (dpA_ints le), .lst (.of upd_same) .nil, sh_nats le, rfl, _, rfl, ?_⟩
    rw [eqv_nils]
    generalize upd H1 p (.lst []) = H2 at e2 D2 k1p k2p ⊢
    by_cases hle : le = []
    · subst hle
      refine iteFb (by simp) ⟨_, rfl, ?_⟩
      have e3 := e2.pub hfo0 g2 k2p
      refine q _ _ _ e3 ⟨?_, ?_, D2.dl, D2.m⟩ ⟨fu, by simpa using hp, fo, _, rfl, upd_same, dpA_ints fu⟩
      · rw [upd_ne (fun z => nfo (by simp [← z]))]; exact D2.gd
      · rw [upd_ne (fun z => nfo (by simp [← z]))]; exact D2.gl
    · refine iteTb (by simp [hle]) ⟨fun σ' H' => _, fun _ _ h => h, ?_⟩
      have hpos : 0 < le.length := List.length_pos_iff.mpr hle
      refine ⟨_, rfl, .inl ⟨rfl, _, .of k2p⟩, _, rfl, .inl ⟨rfl, _, .of k1p⟩, _, rfl, _, rfl, lf, _, rfl, .inl (.of k1p), d, l, G1, _, _, rfl, e2.gh, D2, ⟨le.length, by rw [List.length_map], hpos, by omega, rfl⟩, fun v G3 H3 e3 D3 ⟨x, hx, hv⟩ => ?_⟩
      subst hv
      obtain ⟨y1, y2⟩ := e3.keepM k1p g1 nlf
      obtain ⟨y3, y4⟩ := e3.keepM k2p g2 nfo
      have hxy : (le.map vI)[x]? = some (vI le[x]) := by simp [hx]
      refine ⟨lf, _, x, x, vI le[x], rfl, rfl, y1, by omega, by omega, by rw [List.length_map]; exact seqIx hx, hxy, ?_⟩
      have e4 := (e2.trans e3).mut (o := .lst ((le.map vI).eraseIdx x)) (.inl hlf) y2
      have y5 : upd H3 lf (.lst ((le.map vI).eraseIdx x)) fo = some (.lst (fu.map vI)) := by rw [upd_ne (Ne.symm hne)]; exact y3
      refine ⟨fo, _, _, rfl, rfl, y5, by rw [List.length_map]; exact Nat.lt_of_le_of_lt (show fu.length ≤ 2000 by omega) (by decide), ?_⟩
      have e5 := e4.mut (o := .lst (fu.map vI ++ [vI le[x]])) (.inl hfo0) y4
      have D5 : Deal d l G3 (upd (upd H3 lf (.lst ((le.map vI).eraseIdx x))) fo (.lst (fu.map vI ++ [vI le[x]]))) := by
        obtain ⟨ns, b, m1, m2, m3⟩ := D3.m
        simp at nlf nfo
        exact ⟨D3.gd, D3.gl, D3.dl, ns, b, by rw [upd_ne (fun z => nfo.1 z.symm), upd_ne (fun z => nlf.1 z.symm)]; exact m1, by rw [upd_ne (fun z => nfo.2 z.symm), upd_ne (fun z => nlf.2 z.symm)]; exact m2, m3⟩
      refine ⟨(le.eraseIdx x).length, by rw [List.length_eraseIdx_of_lt hx]; omega, G3, le.eraseIdx x, fu ++ [le[x]], e5, D5, y2, y4, by rw [upd_ne hne, upd_same, erase_map], by rw [upd_same]; simp, ?_, rfl, rfl⟩
      refine List.Perm.trans ?_ hp
      have p1 : (le[x] :: le.eraseIdx x).Perm le := erase_perm hx
      have p2 : (le.eraseIdx x ++ (fu ++ [le[x]])).Perm (le[x] :: (le.eraseIdx x ++ fu)) := by
        rw [← List.append_assoc]
        exact List.perm_append_singleton _ _
      exact p2.trans (List.Perm.append_right fu p1)
end
end K78

/-! text L4 -/
set_option Elab.async false
set_option linter.all false
set_option maxRecDepth 100000
set_option maxHeartbeats 4000000
namespace K78
open PySem PySem.Spec PyProof.Rows L2
theorem asI_map (l : List Nat) : l.map vI = (asI l).map V.int := by rw [List.map_map]; rfl
theorem set_map {α β : Type} (f : α → β) : ∀ (l : List α) (i : Nat) (a : α), (l.map f).set i (f a) = (l.set i a).map f
  | [], _, _ => rfl
  | _ :: _, 0, _ => rfl
  | b :: l, i + 1, a => by simp only [List.map_cons, List.set_cons_succ, set_map f l i a]
theorem ixN_n {n j : Nat} (hj : j < n) : ixN n (j : Int) = some j := by unfold ixN; rw [if_pos (by omega), if_pos (by omega)]; simp
theorem mem_set_self {α : Type} {l : List α} {i : Nat} {a : α} (h : i < l.length) : a ∈ l.set i a := List.mem_iff_getElem.mpr ⟨i, by simpa using h, by simp⟩
section
variable {P : Program} {w : World} {K : PySem.W.Frag} {mg : Str → Option Value} {base : Heap} {C : Addr}
/-! ### _law_view -/
/-- bits, not all alike -/
structure Bits (k : Nat) (bs : List Nat) : Prop where
  len : bs.length = k
  lt : ∀ b ∈ bs, b < 2
  z : 0 ∈ bs
  o : 1 ∈ bs
def spView (K : PySem.W.Frag) : Sp := spD K fun G r Post => ∃ k : Nat, r = [vI k] ∧ 2 ≤ k ∧ k ≤ 100 ∧ Post = fun G' v => ∃ bs, Bits k bs ∧ Ld K G' v (bs.map eI)
theorem sc_l_view : FnScope ["_law_deal", "_law_commands", "_law_bits", "_law_command"] ["_law_deal", "_law_commands"] (defScope s_l_view) := ⟨rfl, rfl, rfl, by decide +kernel, rfl, by decide +kernel, by decide +kernel⟩
theorem ok_l_view (T : Txt K mg C) (F : HasD K mg "_law_view" s_l_view) (d_l_any : Def P w K mg base "_law_any" 1 ["_law_deal", "_law_bound"] (spAny K)) : Def P w K mg base "_law_view" 2 ["_law_deal", "_law_commands"] (spView K) := by
  refine mkDef F sc_l_view (fun _ _ _ _ _ _ us hl => match us, hl with | [_, _], _ => rfl) (fun vs H Q E h => ?_) fun f cdv A outer s H vs Q E hr h => ?_
  · obtain ⟨d, l, G, r, Post, rfl, _, _, ⟨k, rfl, _⟩, _⟩ := h
    rfl
  · obtain ⟨d, l, G, r, Post, rfl, gh, D, ⟨k, rfl, hk2, hk9, rfl⟩, q⟩ := h
    refine ⟨_, (pss_cons (ps_setLc (i := 2) (own := [("_law_command", 3)]) rfl sc_l_view.nd rfl rfl (sw_true rfl rfl rfl (by decide +kernel)) (pi_range1 (by rfl) T.f_range (pa_cons (pv 1) pa_nil)) (blkOk_by (own := [("_law_command", 3)]) (by kernel_rfl)) (fun _ _ _ _ _ => (pg_name (i := 3) sc_l_view.nd rfl (by first | exact Or.inl rfl | exact Or.inr rfl))) (fun _ _ _ _ _ => pts_nil) (fun _ _ _ _ _ => (pe_def d_l_any (hr.mono (by decide)) (by rfl) (pa_cons (pv 0) (pa_cons pe_int pa_nil))))) (pss_cons (ps_if (pt_cmpR op_eq (pe_callB (minL K) (by rfl) T.f_min (by decide +kernel) (pa_cons (pv 2) pa_nil)) (pe_callB (maxL K) (by rfl) T.f_max (by decide +kernel) (pa_cons (pv 2) pa_nil)) (nomark _)) (pss_one (ps_asg (pe_op op_sub pe_int (pe_ix (ixL K) (pv 2) pe_int (fun _ _ => rfl))) (pg_sub (pv 2) (pe_def d_l_any (hr.mono (by decide)) (by rfl) (pa_cons (pv 0) (pa_cons (pv 1) pa_nil))) set_list))) pss_nil) (pss_one (ps_ret (pv 2))))), ?_⟩
    refine ⟨_, rfl, (k : Int), rfl, by omega, by omega, fun B hB => ?_⟩
    rw [Int.toNat_natCast]
    have nB := D.ne hB
    have nBd : B ≠ d ∧ B ≠ l := by simpa using nB
    have dB : ∀ {G' H' o}, Deal d l G' H' → G' B = none → Deal d l G' (upd H' B o) := fun {G' H' o} D' g => by
      obtain ⟨ns, b, m1, m2, m3⟩ := D'.m
      exact ⟨D'.gd, D'.gl, D'.dl, ns, b, by rw [upd_ne (fun z => nBd.1 z.symm)]; exact m1, by rw [upd_ne (fun z => nBd.2 z.symm)]; exact m2, m3⟩
    refine lc_it walk_range (fun i H' => ∃ (G' : Hp) (bs : List Nat), Ext [d, l] G H G' H' ∧ Deal d l G' H' ∧ G' B = none ∧ H' B = some (.lst (bs.map vI)) ∧ bs.length = i ∧ ∀ b ∈ bs, b < 2)
      ⟨G, [], (Ext.refl gh).newM hB, dB D (gh.free hB), gh.free hB, upd_same, rfl, fun b h => by simp at h⟩ (fun _ _ _ _ => trivial) ?_ ?_
    · rintro i x H1 H2 hi ⟨G1, bs, e1, D1, g1, h1, h2, h3⟩ ⟨rfl, rfl⟩
      refine ⟨rfl, tYes_of (iteT ⟨_, rfl, d, l, G1, _, _, rfl, e1.gh, D1, ⟨2, rfl, by omega, by omega, rfl⟩, fun v G2 H2 e2 D2 ⟨x, hx, hv⟩ => ?_⟩)⟩
      subst hv
      obtain ⟨y1, y2⟩ := e2.keepM h1 g1 nB
      refine ⟨_, y1, by rw [List.length_map, h2]; exact Nat.lt_of_le_of_lt (show i ≤ 100 by omega) (by decide), G2, bs ++ [x], (e1.trans e2).mut (.inl hB) y2, dB D2 y2, y2, by rw [upd_same]; simp, by simp [h2], fun b hb => ?_⟩
      rcases List.mem_append.mp hb with hb | hb
      · exact h3 b hb
      · rw [List.mem_singleton.mp hb]; exact hx
    · rintro H1 ⟨G1, bs, e1, D1, g1, h1, h2, h3⟩
      have hpos : 0 < bs.length := by omega
      have hsq : SqL K H1 B ((asI bs).map V.int) := .of (by rw [← asI_map]; exact h1)
      refine ⟨_, rfl, B, asI bs, rfl, hsq, by simpa using hpos, fun m hm hmin => ⟨_, rfl, B, asI bs, rfl, hsq, by simpa using hpos, fun M hM hmax => ⟨rfl, _, rfl, ?_⟩⟩⟩
      have fin : ∀ {G2 H2} (bs2 : List Nat), Ext [d, l] G H G2 H2 → Deal d l G2 H2 → G2 B = none → H2 B = some (.lst (bs2.map vI)) → Bits k bs2 → Q (.ref B) H2 := fun {G2 H2} bs2 e2 D2 g2 y1 hb => by
        refine q _ _ _ (e2.pub hB g2 y1) ⟨?_, ?_, D2.dl, D2.m⟩ ⟨bs2, hb, B, _, rfl, upd_same, dpA_ints bs2⟩
        · rw [upd_ne (fun z => nBd.1 z.symm)]; exact D2.gd
        · rw [upd_ne (fun z => nBd.2 z.symm)]; exact D2.gl
      obtain ⟨m', hm', rfl⟩ := List.mem_map.mp hm
      obtain ⟨M', hM', rfl⟩ := List.mem_map.mp hM
      have b1 := h3 m' hm'
      have b2 := h3 M' hM'
      have hmin' : ∀ y ∈ bs, m' ≤ y := fun y hy => by have := hmin y (List.mem_map.mpr ⟨y, hy, rfl⟩); omega
      have hmax' : ∀ y ∈ bs, y ≤ M' := fun y hy => by have := hmax y (List.mem_map.mpr ⟨y, hy, rfl⟩); omega
      by_cases heq : m' = M'
      · refine iteTb (dec_eq (by omega)) ?_
        have hall : ∀ y ∈ bs, y = m' := fun y hy => by have := hmin' y hy; have := hmax' y hy; omega
        have h0 : bs[0] = m' := hall _ (List.getElem_mem hpos)
        refine ⟨_, rfl, B, _, 0, vI bs[0], rfl, rfl, .of h1, ?_, _, _, rfl, rfl, ?_⟩
        · exact atI_nat (j := 0) (by simp [hpos])
        refine ⟨_, rfl, _, rfl, _, rfl, d, l, G1, _, _, rfl, e1.gh, D1, ⟨k, rfl, by omega, by omega, rfl⟩, fun v G2 H2 e2 D2 ⟨x, hx, hv⟩ => ?_⟩
        subst hv
        obtain ⟨y1, y2⟩ := e2.keepM h1 g1 nB
        refine ⟨B, _, x, x, rfl, rfl, y1, by rw [List.length_map]; exact ixN_n (by omega), ?_⟩
        have es : (bs.map vI).set x (V.int ((1 : Int) - (bs[0] : Int))) = (bs.set x (1 - m')).map vI := by
          rw [← set_map, h0, show ((1 : Int) - (m' : Int)) = ((1 - m' : Nat) : Int) by omega]
        have hnew : upd H2 B (.lst ((bs.map vI).set x (V.int ((1 : Int) - (bs[0] : Int))))) B = some (.lst ((bs.set x (1 - m')).map vI)) := by rw [upd_same, es]
        refine ⟨_, rfl, fin (bs.set x (1 - m')) ((e1.trans e2).mut (.inl hB) y2) (dB D2 y2) y2 hnew ?_⟩
        have hmem : m' ∈ bs.set x (1 - m') := by
          obtain ⟨i, hi, hix⟩ : ∃ i, i < bs.length ∧ i ≠ x := by
            by_cases z : x = 0
            · exact ⟨1, by omega, by omega⟩
            · exact ⟨0, by omega, fun y => z y.symm⟩
          have := hall _ (List.getElem_mem hi)
          exact List.mem_iff_getElem.mpr ⟨i, by simpa using hi, by rw [List.getElem_set_ne (fun z => hix z.symm)]; exact this⟩
        have hmem2 : 1 - m' ∈ bs.set x (1 - m') := mem_set_self (by omega)
        refine ⟨by simpa using h2, fun b hb => ?_, ?_, ?_⟩
        · rcases List.mem_or_eq_of_mem_set hb with hb | hb
          · exact h3 b hb
          · omega
        · by_cases z : m' = 0
          · rw [z] at hmem; rw [z]; exact hmem
          · rw [show m' = 1 by omega] at hmem2 ⊢; exact hmem2
        · by_cases z : m' = 0
          · rw [z] at hmem2 ⊢; exact hmem2
          · rw [show m' = 1 by omega] at hmem ⊢; exact hmem
      · refine iteFb (dec_ne (by omega)) ⟨_, rfl, fin bs e1 D1 g1 h1 ⟨h2, h3, ?_, ?_⟩⟩
        · have := hmin' M' hM'
          rw [show 0 = m' by omega]; exact hm'
        · have := hmin' M' hM'
          rw [show 1 = M' by omega]; exact hM'
/-! ### parts -/
def firstF (bs : List Nat) (f b : Nat) : List (List Nat) := (List.range (f - 1)).map (fun a => bs.map fun _ => b + a + 1) ++ [bs.map fun x => b + f + x] ++ [List.replicate bs.length (b + f), List.replicate bs.length (b + f + 1)]
def lastF (bs : List Nat) (f b : Nat) : List (List Nat) := (List.range (2 ^ f)).map fun s => bs.map fun x => b + (2 * s + x) % 2 ^ f
def wheelF (bs : List Nat) (st m b : Nat) : List (List Nat) := (List.range st).flatMap fun p => (List.range m).map fun s => bs.map fun x => b + (p + 1) % st * m + (s + if p = 0 then x else 0) % m
def spFirst (K : PySem.W.Frag) : Sp := pureSp fun G vs Post => ∃ (u : V) (bs : List Nat) (f b : Nat), vs = [u, vI f, vI b] ∧ Dp K G u (eL bs) ∧ bs.length ≤ 100 ∧ 1 ≤ f ∧ f ≤ 100 ∧ b ≤ 1000 ∧ Post = fun G' v => Ld K G' v ((firstF bs f b).map eL)
theorem sc_l_first : FnScope ["_law_bits", "_law_first_here", "_law_base", "_law_rows", "_law_bit", "_law_at"] ["_law_bits", "_law_first_here", "_law_base"] (defScope s_l_first) := ⟨rfl, rfl, rfl, by decide +kernel, rfl, by decide +kernel, by decide +kernel⟩
theorem ok_l_first (T : Txt K mg C) (F : HasD K mg "_law_first" s_l_first) : Def P w K mg base "_law_first" 1 ["_law_bits", "_law_first_here", "_law_base"] (spFirst K) := by
  refine mkDef F sc_l_first (fun _ _ _ _ _ _ us hl => match us, hl with | [_, _, _], _ => rfl) (fun vs H Q E h => ?_) fun f cdv A outer s H vs Q E hr h => ?_
  · obtain ⟨G, Post, _, ⟨u, bs, f, b, rfl, _⟩, _⟩ := h
    rfl
  · obtain ⟨G, Post, gh, ⟨u, bs, f, b, rfl, hu, hbl, hf1, hf9, hb9, rfl⟩, q⟩ := h
    refine ⟨_, (pss_cons (ps_set (i := 3) sc_l_first.nd rfl (by first | exact Or.inl rfl | exact Or.inr rfl) (pe_op op_cat (pe_lc (own := [("_law_at", 5)]) rfl sc_l_first.nd (pi_range1 (by rfl) T.f_range (pa_cons (pe_op op_sub (pv 1) pe_int) pa_nil)) (blkOk_by (own := [("_law_at", 5)]) (by kernel_rfl)) (fun _ _ _ _ _ => (pg_name (i := 5) sc_l_first.nd rfl (by first | exact Or.inl rfl | exact Or.inr rfl))) (fun _ _ _ _ _ => pts_nil) (fun _ _ _ _ _ => (pe_lc (own := [("_law_bit", 4)]) rfl sc_l_first.nd (piL K (pv 0)) (blkOk_by (own := [("_law_bit", 4)]) (by kernel_rfl)) (fun _ _ _ _ _ => (pg_name (i := 4) sc_l_first.nd rfl (by first | exact Or.inl rfl | exact Or.inr rfl))) (fun _ _ _ _ _ => pts_nil) (fun _ _ _ _ _ => (pe_op op_add (pe_op op_add (pv 2) (pv 5)) pe_int))))) (pe_lst (pa_cons (pe_lc (own := [("_law_bit", 4)]) rfl sc_l_first.nd (piL K (pv 0)) (blkOk_by (own := [("_law_bit", 4)]) (by kernel_rfl)) (fun _ _ _ _ _ => (pg_name (i := 4) sc_l_first.nd rfl (by first | exact Or.inl rfl | exact Or.inr rfl))) (fun _ _ _ _ _ => pts_nil) (fun _ _ _ _ _ => (pe_op op_add (pe_op op_add (pv 2) (pv 1)) (pv 4)))) pa_nil)))) (pss_one (ps_ret (pe_op op_cat (pv 3) (pe_lst (pa_cons (pe_op op_rep (pe_lst (pa_cons (pe_op op_add (pv 2) (pv 1)) pa_nil)) (pe_callB (lenS K) (by rfl) T.f_len (by decide +kernel) (pa_cons (pv 0) pa_nil))) (pa_cons (pe_op op_rep (pe_lst (pa_cons (pe_op op_add (pe_op op_add (pv 2) (pv 1)) pe_int) pa_nil)) (pe_callB (lenS K) (by rfl) T.f_len (by decide +kernel) (pa_cons (pv 0) pa_nil))) pa_nil))))))), ?_⟩
    obtain ⟨a, xs, rfl, ha, hxs⟩ := dp_list hu
    obtain rfl := dpAll_ints hxs
    have ef : ((f : Int) - 1) = ((f - 1 : Nat) : Int) := by omega
    refine ⟨_, rfl, _, _, rfl, rfl, ((f - 1 : Nat) : Int), by show [V.int ((f : Int) - 1)] = _; rw [ef], by omega, by omega, fun D hD => ?_⟩
    rw [Int.toNat_natCast]
    refine lcRD (K := K) (((List.range (f - 1)).map (fun a => bs.map fun _ => b + a + 1)).map eL) (by simp) gh hD (fun _ => rfl) (by omega) (fun i r hi hr G1 H1 e1 Q1 q1 => ?_) fun G1 H1 e1 d1 => ?_
    · obtain rfl : r = eL (bs.map fun _ => b + i + 1) := by simp [hi] at hr; exact hr.symm
      refine ⟨_, rfl, a, rfl, ⟨_, (e1.gg.trans e1.gh).seq ha⟩, fun D2 hD2 => lcLD (K := K) ((bs.map fun _ => b + i + 1).map eI) (by simp) e1.gh (e1.gg.seq ha) hD2 (fun _ => rfl) (by simp; omega) (fun j x r hj hr G2 H2 e2 Q2 q2 => ?_) fun G2 H2 e2 d2 => q1 _ _ _ e2 (ld_dp d2)⟩
      have hjl : j < bs.length := by have := (List.getElem?_eq_some_iff.mp hj).1; simpa using this
      obtain rfl : r = eI (b + i + 1) := by simp [hjl] at hr; exact hr.symm
      refine ⟨_, rfl, _, rfl, _, _, rfl, rfl, _, _, rfl, rfl, ?_⟩
      have : (b : Int) + (0 + (i : Int)) + 1 = ((b + i + 1 : Nat) : Int) := by omega
      exact q2 _ _ _ (Ext.refl e2.gh) (by show Dp K G2 (.int ((b : Int) + (0 + (i : Int)) + 1)) _; rw [this]; exact .int _)
    · obtain ⟨la, lx, hl1, hl2, hl3⟩ := d1
      cases hl1
      refine ⟨_, rfl, a, rfl, ⟨_, (e1.gg.trans e1.gh).seq ha⟩, fun D2 hD2 => lcLD (K := K) ((bs.map fun x => b + f + x).map eI) (by simp) e1.gh (e1.gg.seq ha) hD2 (fun _ => rfl) (by simp; omega) (fun j x r hj hr G2 H2 e2 Q2 q2 => ?_) fun G2 H2 e2 d2 => ?_⟩
      · have hjl : j < bs.length := by have := (List.getElem?_eq_some_iff.mp hj).1; simpa using this
        obtain rfl : x = vI bs[j] := by simp [hjl] at hj; exact hj.symm
        obtain rfl : r = eI (b + f + bs[j]) := by simp [hjl] at hr; exact hr.symm
        exact ⟨_, rfl, _, rfl, _, _, rfl, rfl, _, rfl, _, _, rfl, rfl, q2 _ _ _ (Ext.refl e2.gh) (by show Dp K G2 (.int ((b : Int) + (f : Int) + (bs[j] : Int))) _; exact .int _)⟩
      have d2' := ld_dp d2
      refine ⟨by show 1 ≤ sizeLine; decide, fun p hp => ?_⟩
      have e3 := e2.newM (o := .lst [.ref D2]) hp
      have k1 : upd H2 p (.lst [.ref D2]) D = some (.lst lx) := by rw [upd_ne (ne_of_none (e2.gh _ _ (e2.gg _ _ hl2)) hp)]; exact e2.gh _ _ (e2.gg _ _ hl2)
      have ll := dpA_len hl3
      simp only [List.length_map, List.length_range] at ll
      refine ⟨D, p, lx, _, rfl, rfl, k1, upd_same, Nat.le_trans (show lx.length + 1 ≤ 1000 by omega) (by decide), fun t ht => ?_⟩
      -- the first rows
      have e4 := (e1.trans e3).new (o := .lst (lx ++ [.ref D2])) ht
      have gup : L2.Same G2 (upd G2 t (.lst (lx ++ [.ref D2]))) := fun c o hc => by rw [upd_ne (ne_of_none hc (e3.gh.free ht))]; exact hc
      have hA : DpAll K (upd G2 t (.lst (lx ++ [.ref D2]))) (lx ++ [.ref D2]) (((List.range (f - 1)).map (fun a => bs.map fun _ => b + a + 1) ++ [bs.map fun x => b + f + x]).map eL) := by
        rw [List.map_append]
        exact dpA_app (dpA_up (e2.gg.trans gup) hl3) (.cons (dp_up gup d2') .nil)
      have hA0 : upd G2 t (.lst (lx ++ [.ref D2])) t = some (.lst (lx ++ [.ref D2])) := upd_same
      have haG : SqL K (upd G2 t (.lst (lx ++ [.ref D2]))) a (bs.map vI) := (e1.gg.trans (e2.gg.trans gup)).seq ha
      generalize upd G2 t (.lst (lx ++ [.ref D2])) = G4 at e4 hA hA0 haG
      generalize upd (upd H2 p (.lst [.ref D2])) t (.lst (lx ++ [.ref D2])) = H4 at e4 ⊢
      -- two rows more
      have erep : ∀ (x : Int), (List.replicate (((bs.map vI).length : Nat) : Int).toNat [V.int x]).flatten = (List.replicate bs.length (V.int x)) := fun x => by
        rw [Int.toNat_natCast, List.length_map]
        induction bs.length with
        | zero => rfl
        | succ n ih => rw [List.replicate_succ, List.flatten_cons, ih, List.replicate_succ]; rfl
      have dpr : ∀ {G' : Hp} (x : Nat), DpAll K G' (List.replicate bs.length (V.int (x : Int))) ((List.replicate bs.length x).map eI) := fun {G'} x => by
        have := dpA_ints (K := K) (H := G') (List.replicate bs.length x)
        rw [List.map_replicate] at this
        exact this
      have hlen : (((bs.map vI).length : Nat) : Int).toNat ≤ 1000 := by rw [Int.toNat_natCast, List.length_map]; omega
      have hlen2 : -(2 ^ 63) ≤ (((bs.map vI).length : Nat) : Int) ∧ (((bs.map vI).length : Nat) : Int) < 2 ^ 63 := by rw [List.length_map]; omega
      refine ⟨_, rfl, _, rfl, _, rfl, _, _, rfl, rfl, by show 1 ≤ sizeLine; decide, fun p1 hp1 => ⟨_, rfl, a, bs.map vI, rfl, .inl ((e4.gh.trans (same_new (L2.Same.refl _) hp1)).seq haG), p1, _, _, rfl, rfl, upd_same, hlen2.1, hlen2.2, Nat.le_trans (Nat.mul_le_mul_left 1 hlen) (by decide), fun p2 hp2 => ?_⟩⟩
      have e5 := (e4.newM (o := .lst [.int ((b : Int) + (f : Int))]) hp1).new (o := .lst (List.replicate bs.length (V.int ((b : Int) + (f : Int))))) hp2
      have eqs : ((b : Int) + (f : Int)) = ((b + f : Nat) : Int) := by omega
      have d5 : Dp K (upd G4 p2 (.lst (List.replicate bs.length (V.int ((b : Int) + (f : Int)))))) (.ref p2) (eL (List.replicate bs.length (b + f))) := by
        rw [eqs]; exact .lst (.of upd_same) (dpr (b + f))
      have gup5 : L2.Same G4 (upd G4 p2 (.lst (List.replicate bs.length (V.int ((b : Int) + (f : Int)))))) := fun c o hc => by rw [upd_ne (ne_of_none (e4.gh _ _ hc |> fun z => by rw [upd_ne (ne_of_none z hp1)]; exact z) hp2)]; exact hc
      dsimp only
      rw [erep]
      have he5 : ∀ {c : Addr} {o : HO}, G4 c = some o → upd (upd H4 p1 (.lst [.int ((b : Int) + (f : Int))])) p2 (.lst (List.replicate bs.length (V.int ((b : Int) + (f : Int))))) c = some o := fun {c o} hc => e5.gh _ _ (gup5 _ _ hc)
      have haG5 := gup5.seq haG
      generalize upd G4 p2 (.lst (List.replicate bs.length (V.int ((b : Int) + (f : Int))))) = G5 at e5 d5 gup5 haG5
      generalize upd (upd H4 p1 (.lst [.int ((b : Int) + (f : Int))])) p2 (.lst (List.replicate bs.length (V.int ((b : Int) + (f : Int))))) = H5 at e5 he5 ⊢
      refine ⟨_, rfl, _, rfl, _, _, rfl, rfl, _, _, rfl, rfl, by show 1 ≤ sizeLine; decide, fun p3 hp3 => ⟨_, rfl, a, bs.map vI, rfl, .inl ((e5.gh.trans (same_new (L2.Same.refl _) hp3)).seq haG5), p3, _, _, rfl, rfl, upd_same, hlen2.1, hlen2.2, Nat.le_trans (Nat.mul_le_mul_left 1 hlen) (by decide), fun p4 hp4 => ?_⟩⟩
      dsimp only
      rw [erep]
      have e6 := (e5.newM (o := .lst [.int ((b : Int) + (f : Int) + 1)]) hp3).new (o := .lst (List.replicate bs.length (V.int ((b : Int) + (f : Int) + 1)))) (by dsimp only at hp4; exact hp4)
      have eqs2 : ((b : Int) + (f : Int) + 1) = ((b + f + 1 : Nat) : Int) := by omega
      have d6 : Dp K (upd G5 p4 (.lst (List.replicate bs.length (V.int ((b : Int) + (f : Int) + 1))))) (.ref p4) (eL (List.replicate bs.length (b + f + 1))) := by
        rw [eqs2]; exact .lst (.of upd_same) (dpr (b + f + 1))
      have gup6 : L2.Same G5 (upd G5 p4 (.lst (List.replicate bs.length (V.int ((b : Int) + (f : Int) + 1))))) := fun c o hc => by
        have hp4' : upd H5 p3 (.lst [.int ((b : Int) + (f : Int) + 1)]) p4 = none := by dsimp only at hp4; exact hp4
        have z := e5.gh _ _ hc
        rw [upd_ne (ne_of_none (by rw [upd_ne (ne_of_none z hp3)]; exact z) hp4')]; exact hc
      generalize upd G5 p4 (.lst (List.replicate bs.length (V.int ((b : Int) + (f : Int) + 1)))) = G6 at e6 d6 gup6
      generalize upd (upd H5 p3 (.lst [.int ((b : Int) + (f : Int) + 1)])) p4 (.lst (List.replicate bs.length (V.int ((b : Int) + (f : Int) + 1)))) = H6 at e6 ⊢
      refine ⟨by show 2 ≤ sizeLine; decide, fun p5 hp5 => ?_⟩
      have e7 := e6.newM (o := .lst [.ref p2, .ref p4]) hp5
      have t5 : G6 t = some (.lst (lx ++ [.ref D2])) := gup6 _ _ (gup5 _ _ hA0)
      have k5 : upd H6 p5 (.lst [.ref p2, .ref p4]) t = some (.lst (lx ++ [.ref D2])) := by rw [upd_ne (ne_of_none (e6.gh _ _ t5) hp5)]; exact e6.gh _ _ t5
      refine ⟨t, p5, _, _, rfl, rfl, k5, upd_same, Nat.le_trans (show (lx ++ [V.ref D2]).length + 2 ≤ 1000 by simp; omega) (by decide), fun p6 hp6 => ?_⟩
      have e8 := e7.new (o := .lst (lx ++ [.ref D2] ++ [.ref p2, .ref p4])) hp6
      have gup8 : L2.Same G6 (upd G6 p6 (.lst (lx ++ [.ref D2] ++ [.ref p2, .ref p4]))) := fun c o hc => by rw [upd_ne (ne_of_none hc (e7.gh.free hp6))]; exact hc
      refine q _ _ _ e8 ⟨p6, _, rfl, upd_same, ?_⟩
      unfold firstF
      rw [List.map_append]
      exact dpA_app (dpA_up (gup5.trans (gup6.trans gup8)) hA) (.cons (dp_up (gup6.trans gup8) d5) (.cons (dp_up gup8 d6) .nil))
end
end K78

/-! text L5 -/
set_option Elab.async false
set_option linter.all false
set_option maxRecDepth 100000
set_option maxHeartbeats 4000000
namespace K78
open PySem PySem.Spec PyProof.Rows L2
section
variable {P : Program} {w : World} {K : PySem.W.Frag} {mg : Str → Option Value} {base : Heap} {C : Addr}
/-! ### _law_last -/
def spLast (K : PySem.W.Frag) : Sp := pureSp fun G vs Post => ∃ (u : V) (bs : List Nat) (f b : Nat), vs = [u, vI f, vI b] ∧ Dp K G u (eL bs) ∧ bs.length ≤ 100 ∧ f ≤ 10 ∧ b ≤ 1000 ∧ Post = fun G' v => Ld K G' v ((lastF bs f b).map eL)
theorem sc_l_last : FnScope ["_law_bits", "_law_last_here", "_law_base", "_law_whole", "_law_turn", "_law_bit", "_law_state"] ["_law_bits", "_law_last_here", "_law_base"] (defScope s_l_last) := ⟨rfl, rfl, rfl, by decide +kernel, rfl, by decide +kernel, by decide +kernel⟩
theorem ok_l_last (T : Txt K mg C) (F : HasD K mg "_law_last" s_l_last) : Def P w K mg base "_law_last" 1 ["_law_bits", "_law_last_here", "_law_base"] (spLast K) := by
  refine mkDef F sc_l_last (fun _ _ _ _ _ _ us hl => match us, hl with | [_, _, _], _ => rfl) (fun vs H Q E h => ?_) fun f cdv A outer s H vs Q E hr h => ?_
  · obtain ⟨G, Post, _, ⟨u, bs, f, b, rfl, _⟩, _⟩ := h
    rfl
  · obtain ⟨G, Post, gh, ⟨u, bs, f, b, rfl, hu, hbl, hf9, hb9, rfl⟩, q⟩ := h
    refine ⟨_, (pss_cons (ps_set (i := 3) sc_l_last.nd rfl (by first | exact Or.inl rfl | exact Or.inr rfl) pe_int) (pss_cons (ps_for PassesOwn.never rfl (pi_range1 (by rfl) T.f_range (pa_cons (pv 1) pa_nil)) (pg_name (i := 4) sc_l_last.nd rfl (by first | exact Or.inl rfl | exact Or.inr rfl)) (pss_one (ps_set (i := 3) sc_l_last.nd rfl (by first | exact Or.inl rfl | exact Or.inr rfl) (pe_op op_mul (pv 3) pe_int)))) (pss_one (ps_ret (pe_lc (own := [("_law_state", 6)]) rfl sc_l_last.nd (pi_range1 (by rfl) T.f_range (pa_cons (pv 3) pa_nil)) (blkOk_by (own := [("_law_state", 6)]) (by kernel_rfl)) (fun _ _ _ _ _ => (pg_name (i := 6) sc_l_last.nd rfl (by first | exact Or.inl rfl | exact Or.inr rfl))) (fun _ _ _ _ _ => pts_nil) (fun _ _ _ _ _ => (pe_lc (own := [("_law_bit", 5)]) rfl sc_l_last.nd (piL K (pv 0)) (blkOk_by (own := [("_law_bit", 5)]) (by kernel_rfl)) (fun _ _ _ _ _ => (pg_name (i := 5) sc_l_last.nd rfl (by first | exact Or.inl rfl | exact Or.inr rfl))) (fun _ _ _ _ _ => pts_nil) (fun _ _ _ _ _ => (pe_op op_add (pv 2) (pe_op op_modN (pe_callTy call_int1 (by rfl) T.f_int (by decide +kernel) (pa_cons (pe_op op_add (pe_op op_mul pe_int (pv 6)) (pv 5)) pa_nil)) (pv 3))))))))))), ?_⟩
    obtain ⟨a, xs, rfl, ha, hxs⟩ := dp_list hu
    obtain rfl := dpAll_ints hxs
    have hp : ∀ i, i ≤ f → 2 ^ i ≤ 1024 := fun i hi => Nat.le_trans (Nat.pow_le_pow_right (by omega) (show i ≤ 10 by omega)) (by decide)
    refine ⟨_, rfl, (f : Int), rfl, by omega, by omega, ?_⟩
    rw [Int.toNat_natCast]
    refine for_it walk_range (fun i σ H' => ∃ v4, H' = H ∧ σ = [some (.ref a), some (vI f), some (vI b), some (vI (2 ^ i)), v4, none, none]) ⟨none, rfl, rfl⟩ (fun _ _ _ _ _ => trivial) ?_ ?_
    · rintro i x σ H1 H2 hi ⟨v4, rfl, rfl⟩ ⟨rfl, rfl⟩
      have := hp i (by omega)
      refine ⟨_, rfl, _, _, rfl, rfl, .inr ⟨by omega, by omega⟩, some (V.int (0 + (i : Int))), rfl, ?_⟩
      show [some (V.ref a), some (vI f), some (vI b), some (V.int (((2 ^ i : Nat) : Int) * 2)), some (V.int (0 + (i : Int))), none, none] = _
      rw [show (((2 ^ i : Nat) : Int) * 2) = ((2 ^ (i + 1) : Nat) : Int) by rw [Nat.pow_succ]; omega]
    · rintro σ H1 ⟨v4, rfl, rfl⟩
      have hw := hp f (Nat.le_refl _)
      have hw1 : 1 ≤ 2 ^ f := Nat.one_le_two_pow
      refine ⟨_, rfl, ((2 ^ f : Nat) : Int), rfl, by omega, by omega, fun D hD => ?_⟩
      rw [Int.toNat_natCast]
      refine lcRD (K := K) ((lastF bs f b).map eL) (by simp [lastF]) gh hD (fun _ => rfl) (by omega) (fun s r hs hr G1 H1 e1 Q1 q1 => ?_) fun G1 H1 e1 d1 => q _ _ _ e1 d1
      obtain rfl : r = eL (bs.map fun x => b + (2 * s + x) % 2 ^ f) := by simp [lastF, hs] at hr; exact hr.symm
      refine ⟨_, rfl, a, rfl, ⟨_, (e1.gg.trans e1.gh).seq ha⟩, fun D2 hD2 => lcLD (K := K) ((bs.map fun x => b + (2 * s + x) % 2 ^ f).map eI) (by simp) e1.gh (e1.gg.seq ha) hD2 (fun _ => rfl) (by simp; omega) (fun j x r hj hr G2 H2 e2 Q2 q2 => ?_) fun G2 H2 e2 d2 => q1 _ _ _ e2 (ld_dp d2)⟩
      have hjl : j < bs.length := by have := (List.getElem?_eq_some_iff.mp hj).1; simpa using this
      obtain rfl : x = vI bs[j] := by simp [hjl] at hj; exact hj.symm
      obtain rfl : r = eI (b + (2 * s + bs[j]) % 2 ^ f) := by simp [hjl] at hr; exact hr.symm
      refine ⟨_, rfl, _, rfl, _, _, rfl, rfl, .inl ⟨by omega, by omega⟩, _, rfl, _, _, rfl, rfl, .inl ⟨_, rfl, _, rfl, _, _, rfl, rfl, by omega, _, _, rfl, rfl, ?_⟩⟩
      refine q2 _ _ _ (Ext.refl e2.gh) ?_
      show Dp K G2 (.int ((b : Int) + Int.fmod (2 * (0 + (s : Int)) + (bs[j] : Int)) ((2 ^ f : Nat) : Int))) _
      rw [show (2 * (0 + (s : Int)) + (bs[j] : Int)) = ((2 * s + bs[j] : Nat) : Int) by omega, fmod_nat]
      exact .int _
/-! ### _law_wheel -/
def spWheel (K : PySem.W.Frag) : Sp := pureSp fun G vs Post => ∃ (u : V) (bs : List Nat) (st m b : Nat), vs = [u, vI st, vI m, vI b] ∧ Dp K G u (eL bs) ∧ bs.length ≤ 100 ∧ 1 ≤ st ∧ st ≤ 100 ∧ 1 ≤ m ∧ m ≤ 100 ∧ b ≤ 1000 ∧ Post = fun G' v => Ld K G' v ((wheelF bs st m b).map eL)
def wrow (bs : List Nat) (st m b p s : Nat) : List Nat := bs.map fun x => b + (p + 1) % st * m + (s + if p = 0 then x else 0) % m
theorem sc_l_wheel : FnScope ["_law_sums", "_law_step", "_law_modulus", "_law_base", "_law_rows", "_law_place", "_law_state", "_law_add", "_law_one"] ["_law_sums", "_law_step", "_law_modulus", "_law_base"] (defScope s_l_wheel) := ⟨rfl, rfl, rfl, by decide +kernel, rfl, by decide +kernel, by decide +kernel⟩
theorem ok_l_wheel (T : Txt K mg C) (F : HasD K mg "_law_wheel" s_l_wheel) : Def P w K mg base "_law_wheel" 1 ["_law_sums", "_law_step", "_law_modulus", "_law_base"] (spWheel K) := by
  refine mkDef F sc_l_wheel (fun _ _ _ _ _ _ us hl => match us, hl with | [_, _, _, _], _ => rfl) (fun vs H Q E h => ?_) fun f cdv A outer s H vs Q E hr h => ?_
  · obtain ⟨G, Post, _, ⟨u, bs, st, m, b, rfl, _⟩, _⟩ := h
    rfl
  · obtain ⟨G, Post, gh, ⟨u, bs, st, m, b, rfl, hu, hbl, hs1, hs9, hm1, hm9, hb9, rfl⟩, q⟩ := h
    refine ⟨_, (pss_cons (ps_set (i := 4) sc_l_wheel.nd rfl (by first | exact Or.inl rfl | exact Or.inr rfl) (pe_lst pa_nil)) (pss_cons (ps_for PassesOwn.never rfl (pi_range1 (by rfl) T.f_range (pa_cons (pv 1) pa_nil)) (pg_name (i := 5) sc_l_wheel.nd rfl (by first | exact Or.inl rfl | exact Or.inr rfl)) (pss_one (ps_for PassesOwn.never rfl (pi_range1 (by rfl) T.f_range (pa_cons (pv 2) pa_nil)) (pg_name (i := 6) sc_l_wheel.nd rfl (by first | exact Or.inl rfl | exact Or.inr rfl)) (pss_cons (ps_setLc (i := 7) (own := [("_law_one", 8)]) rfl sc_l_wheel.nd rfl rfl (sw_true rfl rfl rfl (by decide +kernel)) (piL K (pv 0)) (blkOk_by (own := [("_law_one", 8)]) (by kernel_rfl)) (fun _ _ _ _ _ => (pg_name (i := 8) sc_l_wheel.nd rfl (by first | exact Or.inl rfl | exact Or.inr rfl))) (fun _ _ _ _ _ => pts_nil) (fun _ _ _ _ _ => (pe_ifExp (pt_cmpR op_eq (pv 5) pe_int (nomark _)) (pv 8) pe_int))) (pss_one (ps_expr (pe_bm PySem.F.plainAttrs_list PySem.F.slot_list_append PySem.F.type_list_append mt_append (pv 4) (pa_cons (pe_lc (own := [("_law_one", 8)]) rfl sc_l_wheel.nd (piL K (pv 7)) (blkOk_by (own := [("_law_one", 8)]) (by kernel_rfl)) (fun _ _ _ _ _ => (pg_name (i := 8) sc_l_wheel.nd rfl (by first | exact Or.inl rfl | exact Or.inr rfl))) (fun _ _ _ _ _ => pts_nil) (fun _ _ _ _ _ => (pe_op op_add (pe_op op_add (pv 3) (pe_op op_mul (pe_op op_modN (pe_callTy call_int1 (by rfl) T.f_int (by decide +kernel) (pa_cons (pe_op op_add (pv 5) pe_int) pa_nil)) (pv 1)) (pv 2))) (pe_op op_modN (pe_callTy call_int1 (by rfl) T.f_int (by decide +kernel) (pa_cons (pe_op op_add (pv 6) (pv 8)) pa_nil)) (pv 2))))) pa_nil)))))))) (pss_one (ps_ret (pv 4))))), ?_⟩
    obtain ⟨a, xs, rfl, ha, hxs⟩ := dp_list hu
    obtain rfl := dpAll_ints hxs
    refine ⟨by show 0 ≤ sizeLine; decide, fun R hR => ?_⟩
    have gR := gh.free hR
    have e0 := (Ext.refl (X := []) gh).newM (o := .lst []) hR
    refine ⟨_, rfl, (st : Int), rfl, by omega, by omega, ?_⟩
    rw [Int.toNat_natCast]
    have hrows : ∀ p, ((List.range (p + 1)).flatMap fun p => (List.range m).map fun s => wrow bs st m b p s) = ((List.range p).flatMap fun p => (List.range m).map fun s => wrow bs st m b p s) ++ (List.range m).map fun s => wrow bs st m b p s := fun p => by rw [List.range_succ, List.flatMap_append]; simp
    have hlen : ∀ p, ((List.range p).flatMap fun p => (List.range m).map fun s => wrow bs st m b p s).length = p * m := fun p => by
      induction p with
      | zero => simp
      | succ p ih => rw [hrows, List.length_append, ih, List.length_map, List.length_range, Nat.succ_mul]
    refine for_it walk_range (fun i σ H' => ∃ (G' : Hp) (rs : List V) (v5 v6 v7 : Option V), Ext [] G H G' H' ∧ G' R = none ∧ H' R = some (.lst rs) ∧ DpAll K G' rs (((List.range i).flatMap fun p => (List.range m).map fun s => wrow bs st m b p s).map eL) ∧ σ = [some (.ref a), some (vI st), some (vI m), some (vI b), some (.ref R), v5, v6, v7, none])
      ⟨G, [], none, none, none, e0, gR, upd_same, .nil, rfl⟩ (fun _ _ _ _ _ => trivial) ?_ ?_
    · rintro p x σ H1 H2 hp ⟨G1, rs, v5, v6, v7, e1, g1, h1, h2, rfl⟩ ⟨rfl, rfl⟩
      have hz : (fun i : Nat => V.int (0 + (i : Int))) p = vI p := by simp
      rw [hz]
      have hpm : p * m ≤ 100 * 100 := Nat.mul_le_mul (by omega) hm9
      refine ⟨_, rfl, (m : Int), rfl, by omega, by omega, ?_⟩
      rw [Int.toNat_natCast]
      refine for_it walk_range (fun i σ H' => ∃ (G' : Hp) (rs : List V) (v6 v7 : Option V), Ext [] G H G' H' ∧ G' R = none ∧ H' R = some (.lst rs) ∧ DpAll K G' rs ((((List.range p).flatMap fun p => (List.range m).map fun s => wrow bs st m b p s) ++ (List.range i).map fun s => wrow bs st m b p s).map eL) ∧ σ = [some (.ref a), some (vI st), some (vI m), some (vI b), some (.ref R), some (vI p), v6, v7, none])
        ⟨G1, rs, v6, v7, e1, g1, h1, by simpa using h2, rfl⟩ (fun _ _ _ _ _ => trivial) ?_ ?_
      · rintro i x σ H3 H4 hi ⟨G3, rs, v6, v7, e3, g3, h3, h4, rfl⟩ ⟨rfl, rfl⟩
        have hz : (fun i : Nat => V.int (0 + (i : Int))) i = vI i := by simp
        rw [hz]
        refine ⟨_, rfl, a, rfl, ⟨_, (e3.gg.trans e3.gh).seq ha⟩, fun D hD => lcLD (K := K) ((bs.map fun x => if p = 0 then x else 0).map eI) (by simp) e3.gh (e3.gg.seq ha) hD (fun _ => rfl) (by simp; omega) (fun j x r hj hr G5 H5 e5 Q5 q5 => ?_) fun G5 H5 e5 d5 => ?_⟩
        · have hjl : j < bs.length := by have := (List.getElem?_eq_some_iff.mp hj).1; simpa using this
          obtain rfl : x = vI bs[j] := by simp [hjl] at hj; exact hj.symm
          obtain rfl : r = eI (if p = 0 then bs[j] else 0) := by simp [hjl] at hr; rw [← hr]
          refine ⟨_, rfl, rfl, _, rfl, ?_⟩
          by_cases hp0 : p = 0
          · refine iteTb (dec_eq (by omega)) ⟨_, rfl, q5 _ _ _ (Ext.refl e5.gh) ?_⟩
            rw [if_pos hp0]; exact .int _
          · refine iteFb (dec_ne (by omega)) (q5 _ _ _ (Ext.refl e5.gh) ?_)
            rw [if_neg hp0]; exact .int _
        · obtain ⟨f1, f2⟩ := e5.keepM h3 g3 (by simp)
          obtain ⟨da, dx, hd0, hd1, hd2⟩ := d5
          cases hd0
          obtain rfl := dpAll_ints hd2
          refine ⟨_, rfl, .inl ⟨rfl, _, .of f1⟩, _, rfl, D, rfl, ⟨_, .of (e5.gh _ _ hd1)⟩, fun D2 hD2 => lcLD (K := K) ((wrow bs st m b p i).map eI) (by simp [wrow]) e5.gh (.of hd1) hD2 (fun _ => rfl) (by simp; omega) (fun j x r hj hr G6 H6 e6 Q6 q6 => ?_) fun G6 H6 e6 d6 => ?_⟩
          · have hjl : j < bs.length := by have := (List.getElem?_eq_some_iff.mp hj).1; simpa using this
            obtain rfl : x = vI (if p = 0 then bs[j] else 0) := by simp [hjl] at hj; rw [← hj]
            obtain rfl : r = eI (b + (p + 1) % st * m + (i + if p = 0 then bs[j] else 0) % m) := by simp [wrow, hjl] at hr; rw [← hr]
            have hst : (p + 1) % st < st := Nat.mod_lt _ (by omega)
            have e1' : Int.fmod ((p : Int) + 1) (st : Int) = (((p + 1) % st : Nat) : Int) := by rw [show ((p : Int) + 1) = ((p + 1 : Nat) : Int) by omega, fmod_nat]
            refine ⟨_, rfl, _, rfl, _, _, rfl, rfl, .inl ⟨_, rfl, _, rfl, _, _, rfl, rfl, by omega, _, rfl, _, _, rfl, rfl, .inl ⟨by rw [e1']; omega, by rw [e1']; omega⟩, _, _, rfl, rfl, _, rfl, _, rfl, _, _, rfl, rfl, .inl ⟨_, rfl, _, rfl, _, _, rfl, rfl, by omega, _, _, rfl, rfl, ?_⟩⟩⟩
            refine q6 _ _ _ (Ext.refl e6.gh) ?_
            show Dp K G6 (.int ((b : Int) + Int.fmod ((p : Int) + 1) (st : Int) * (m : Int) + Int.fmod ((i : Int) + ((if p = 0 then bs[j] else 0 : Nat) : Int)) (m : Int))) _
            rw [e1', show ((i : Int) + ((if p = 0 then bs[j] else 0 : Nat) : Int)) = ((i + (if p = 0 then bs[j] else 0) : Nat) : Int) by omega, fmod_nat]
            have : (b : Int) + (((p + 1) % st : Nat) : Int) * (m : Int) + (((i + if p = 0 then bs[j] else 0) % m : Nat) : Int) = ((b + (p + 1) % st * m + (i + if p = 0 then bs[j] else 0) % m : Nat) : Int) := by
              rw [Int.natCast_add, Int.natCast_add, Int.natCast_mul]
            rw [this]
            exact .int _
          · obtain ⟨y1, y2⟩ := e6.keepM f1 f2 (by simp)
            have hrl := dpA_len h4
            simp only [List.length_map, List.length_append, List.length_range] at hrl
            rw [hlen] at hrl
            refine ⟨R, rs, _, rfl, rfl, y1, Nat.lt_of_le_of_lt (show rs.length ≤ 20000 by omega) (by decide), G6, rs ++ [.ref D2], _, _, (e3.trans (e5.trans e6)).mut (.inl hR) y2, y2, upd_same, ?_, rfl⟩
            rw [show (((List.range p).flatMap fun p => (List.range m).map fun s => wrow bs st m b p s) ++ (List.range (i + 1)).map fun s => wrow bs st m b p s).map eL = (((List.range p).flatMap fun p => (List.range m).map fun s => wrow bs st m b p s) ++ (List.range i).map fun s => wrow bs st m b p s).map eL ++ [eL (wrow bs st m b p i)] by rw [List.range_succ]; simp]
            exact dpA_app (dpA_up (e5.gg.trans e6.gg) h4) (.cons (ld_dp d6) .nil)
      · rintro σ H3 ⟨G3, rs, v6, v7, e3, g3, h3, h4, rfl⟩
        exact ⟨G3, rs, _, _, _, e3, g3, h3, by rw [hrows]; exact h4, rfl⟩
    · rintro σ H1 ⟨G1, rs, v5, v6, v7, e1, g1, h1, h2, rfl⟩
      refine ⟨_, rfl, q _ _ _ (e1.pub hR g1 h1) ⟨R, rs, rfl, upd_same, ?_⟩⟩
      exact dpA_up (fun c o hc => by rw [upd_ne (ne_of_none hc g1)]; exact hc) h2
end
end K78

/-! text L6 -/
set_option Elab.async false
set_option linter.all false
set_option maxRecDepth 100000
set_option maxHeartbeats 4000000
namespace K78
open PySem PySem.Spec PyProof.Rows L2
/-! ### _law_named, plain -/
/-- the rows with the first i of them put at their names -/
def namedF (m : List Nat) (rows : List (List Nat)) : Nat → List (List Nat)
  | 0 => List.replicate rows.length []
  | i + 1 => (namedF m rows i).set (m.getD i 0) ((rows.getD i []).map (m.getD · 0))
theorem namedF_len (m : List Nat) (rows : List (List Nat)) (i : Nat) : (namedF m rows i).length = rows.length := by
  induction i with
  | zero => simp [namedF]
  | succ i ih => rw [namedF, List.length_set, ih]
/-- rows with the states named by m -/
abbrev renF (m : List Nat) (rows : List (List Nat)) : List (List Nat) := namedF m rows rows.length
theorem eL_inj_nil : eL [] = .list [] := rfl
section
variable {P : Program} {w : World} {K : PySem.W.Frag} {mg : Str → Option Value} {base : Heap} {C : Addr}
theorem dpA_set {G : Hp} : ∀ {vs : List V} {ds : List PyData} {i : Nat} {v : V} {d : PyData}, DpAll K G vs ds → Dp K G v d → DpAll K G (vs.set i v) (ds.set i d)
  | _, _, _, _, _, .nil, _ => .nil
  | _, _, 0, _, _, .cons _ t, h => .cons h t
  | _, _, i + 1, _, _, .cons r t, h => .cons r (dpA_set t h)
def spNamed (K : PySem.W.Frag) : Sp := spD K fun G r Post => ∃ (u : V) (rows : List (List Nat)), r = [u] ∧ Dp K G u (eLL rows) ∧ (∀ r ∈ rows, ∀ s ∈ r, s < rows.length) ∧ (∀ r ∈ rows, r.length ≤ 100) ∧ rows.length ≤ 100 ∧ Post = fun G' v => ∃ m : List Nat, m.Perm (List.range rows.length) ∧ Ld K G' v ((renF m rows).map eL)
theorem sc_l_named : FnScope ["_law_deal", "_law_steps_here", "_law_names", "_law_found", "_law_state", "_law_row", "_law_to"] ["_law_deal", "_law_steps_here"] (defScope s_l_named) := ⟨rfl, rfl, rfl, by decide +kernel, rfl, by decide +kernel, by decide +kernel⟩
theorem ok_l_named (T : Txt K mg C) (F : HasD K mg "_law_named" s_l_named) (d_l_mixed : Def P w K mg base "_law_mixed" 2 ["_law_deal", "_law_some"] (spMixed K)) : Def P w K mg base "_law_named" 3 ["_law_deal", "_law_steps_here"] (spNamed K) := by
  refine mkDef F sc_l_named (fun _ _ _ _ _ _ us hl => match us, hl with | [_, _], _ => rfl) (fun vs H Q E h => ?_) fun f cdv A outer s H vs Q E hr h => ?_
  · obtain ⟨d, l, G, r, Post, rfl, _, _, ⟨u, rows, rfl, _⟩, _⟩ := h
    rfl
  · obtain ⟨d, l, G, r, Post, rfl, gh, D, ⟨u, rows, rfl, hu, hrb, hrl, hn9, rfl⟩, q⟩ := h
    refine ⟨_, (pss_cons (ps_asg (pe_tup (pa_cons (pe_def d_l_mixed (hr.mono (by decide)) (by rfl) (pa_cons (pv 0) (pa_cons (pe_listRg rfl (by rfl) T.f_list (prg_1 (by rfl) T.f_range (pe_callB (lenS K) (by rfl) T.f_len (by decide +kernel) (pa_cons (pv 1) pa_nil)))) pa_nil))) (pa_cons (pe_lc (own := [("_law_row", 5)]) rfl sc_l_named.nd (piL K (pv 1)) (blkOk_by (own := [("_law_row", 5)]) (by kernel_rfl)) (fun _ _ _ _ _ => (pg_name (i := 5) sc_l_named.nd rfl (by first | exact Or.inl rfl | exact Or.inr rfl))) (fun _ _ _ _ _ => pts_nil) (fun _ _ _ _ _ => (pe_lst pa_nil))) pa_nil))) (pgT K (n := 2) (pgs_cons (pg_name (i := 2) sc_l_named.nd rfl (by first | exact Or.inl rfl | exact Or.inr rfl)) (pgs_cons (pg_name (i := 3) sc_l_named.nd rfl (by first | exact Or.inl rfl | exact Or.inr rfl)) pgs_nil)))) (pss_cons (ps_for PassesOwn.never rfl (piE K (by rfl) T.f_enumerate (pa_cons (pv 1) pa_nil)) (pgT K (n := 2) (pgs_cons (pg_name (i := 4) sc_l_named.nd rfl (by first | exact Or.inl rfl | exact Or.inr rfl)) (pgs_cons (pg_name (i := 5) sc_l_named.nd rfl (by first | exact Or.inl rfl | exact Or.inr rfl)) pgs_nil))) (pss_one (ps_asg (pe_lc (own := [("_law_to", 6)]) rfl sc_l_named.nd (piL K (pv 5)) (blkOk_by (own := [("_law_to", 6)]) (by kernel_rfl)) (fun _ _ _ _ _ => (pg_name (i := 6) sc_l_named.nd rfl (by first | exact Or.inl rfl | exact Or.inr rfl))) (fun _ _ _ _ _ => pts_nil) (fun _ _ _ _ _ => (pe_ix (ixL K) (pv 2) (pv 6) (fun _ _ => rfl)))) (pg_sub (pv 3) (pe_ix (ixL K) (pv 2) (pv 4) (fun _ _ => rfl)) set_list)))) (pss_one (ps_ret (pv 3))))), ?_⟩
    obtain ⟨a, xs, rfl, ha, hxs⟩ := dp_list hu
    have hl := dpA_len hxs
    rw [List.length_map] at hl
    refine ⟨_, rfl, _, rfl, a, xs, rfl, .inl (gh.seq ha), (xs.length : Int), rfl, RgOk.of_le (by omega) (by omega) (by omega) (by omega), fun p1 hp1 => ?_⟩
    rw [hl, rg_nat]
    have e1 := (Ext.refl (X := []) gh).new (o := .lst ((List.range rows.length).map vI)) (by exact hp1)
    have d1 : Dp K (upd G p1 (.lst ((List.range rows.length).map vI))) (.ref p1) (eL (List.range rows.length)) := .lst (.of upd_same) (dpA_ints _)
    have D1 := D.over e1
    generalize upd G p1 (.lst ((List.range rows.length).map vI)) = G1 at e1 d1 D1
    generalize upd H p1 (.lst ((List.range rows.length).map vI)) = H1 at e1 D1 ⊢
    refine ⟨d, l, G1, _, _, rfl, e1.gh, D1, ⟨.ref p1, List.range rows.length, rfl, d1, by simp; omega, rfl⟩, fun mv G2 H2 e2 D2 ⟨m, hm, dm⟩ => ?_⟩
    have e02 := (e1.dl (d := d) (l := l)).trans e2
    have ml := hm.length_eq
    rw [List.length_range] at ml
    refine ⟨_, rfl, a, rfl, ⟨_, (e02.gg.trans e2.gh).seq ha⟩, fun B hB => ?_⟩
    have nB := D2.ne hB
    refine lc_it (walk_list (K := K) (a := a) (xs := xs)) (LcP K G2 H2 B ((namedF m rows 0).map eL)) (lcP_start e2.gh hB) (fun i H' _ ⟨G', _, e, _⟩ => (e02.gg.trans (e.gg.trans e.gh)).seq ha) ?_ ?_
    · rintro i x H3 H4 hi ⟨G3, acc, e3, g3, h1, h2, h3⟩ ⟨rfl, hx⟩
      refine ⟨rfl, tYes_of (iteT ⟨by show 0 ≤ sizeLine; decide, fun p hp => ?_⟩)⟩
      have hir : i < rows.length := by rw [← hl]; exact hi
      exact lcP_step (y := .ref p) (r := eL []) e3 hB g3 h1 h2 h3 ((Ext.refl e3.gh).new hp) (by simp [namedF, hir]) (.lst (.of upd_same) .nil) (by omega)
    · rintro H3 ⟨G3, acc, e3, g3, h1, h2, h3⟩
      rw [hl, show rows.length = ((namedF m rows 0).map eL).length by rw [List.length_map, namedF_len], List.take_length] at h3
      have D3 := D2.over e3
      refine ⟨by show 2 ≤ sizeLine; decide, fun t ht => ⟨t, [mv, .ref B], rfl, .of upd_same, rfl, _, _, rfl, _, _, rfl, rfl, ?_⟩⟩
      have e4 := e3.newM (o := .tup [mv, .ref B]) ht
      have h4 : upd H3 t (.tup [mv, .ref B]) B = some (.lst acc) := by rw [upd_ne (ne_of_none h1 ht)]; exact h1
      have D4 : Deal d l G3 (upd H3 t (.tup [mv, .ref B])) := D3.over ((Ext.refl e3.gh).newM ht)
      generalize upd H3 t (.tup [mv, .ref B]) = H4 at e4 h4 D4 ⊢
      obtain ⟨ma, mx, rfl, hm1, hm2⟩ := dm
      obtain rfl := dpAll_ints hm2
      refine ⟨_, rfl, a, xs, rfl, (e02.gg.trans (e4.gg.trans e4.gh)).seq ha, for_it (walk_enum (K := K) (a := a) (xs := xs)) (fun i σ H' => ∃ (G' : Hp) (acc : List V) (v4 v5 : Option V), Ext [] G2 H2 G' H' ∧ G' B = none ∧ H' B = some (.lst acc) ∧ DpAll K G' acc ((namedF m rows i).map eL) ∧ Deal d l G' H' ∧ σ = [some (.ref d), some (.ref a), some (.ref ma), some (.ref B), v4, v5, none])
        ⟨G3, acc, none, none, e4, g3, h4, h3, D4, rfl⟩ (fun i σ H' _ ⟨G', _, _, _, e, _⟩ => (e02.gg.trans (e.gg.trans e.gh)).seq ha) ?_ ?_⟩
      · rintro i x σ H5 H6 hi ⟨G5, acc, v4, v5, e5, g5, k1, k2, D5, rfl⟩ ⟨T1, y1, y2, rfl, hT, rfl, hy1, hy2⟩
        cases hy1
        have hir : i < rows.length := by rw [← hl]; exact hi
        obtain ⟨dd, hd, hy⟩ := dpA_at' hxs hy2
        obtain rfl : dd = eL rows[i] := by simp [hir] at hd; exact hd.symm
        obtain ⟨ra, rx, rfl, hr1, hr2⟩ := dp_list hy
        obtain rfl := dpAll_ints hr2
        have e6 := e5.newM (o := .tup [.int (i : Nat), .ref ra]) hT
        have k1' : upd H5 T1 (.tup [.int (i : Nat), .ref ra]) B = some (.lst acc) := by rw [upd_ne (ne_of_none k1 hT)]; exact k1
        have D6 : Deal d l G5 (upd H5 T1 (.tup [.int (i : Nat), .ref ra])) := D5.over ((Ext.refl e5.gh).newM hT)
        refine ⟨T1, _, rfl, .of upd_same, rfl, _, _, rfl, _, _, rfl, rfl, ?_⟩
        generalize upd H5 T1 (.tup [.int (i : Nat), .ref ra]) = H6 at e6 k1' D6 ⊢
        have hrli := hrl _ (List.getElem_mem hir)
        refine ⟨_, rfl, ra, rfl, ⟨_, (e02.gg.trans (e6.gg.trans e6.gh)).seq hr1⟩, fun B2 hB2 => lcLD (K := K) ((rows[i].map (m.getD · 0)).map eI) (by simp) e6.gh ((e02.gg.trans e6.gg).seq hr1) hB2 (fun _ => rfl) (by simp; omega) (fun j x r hj hr G7 H7 e7 Q7 q7 => ?_) fun G7 H7 e7 d7 => ?_⟩
        · have hjl : j < rows[i].length := by have := (List.getElem?_eq_some_iff.mp hj).1; simpa using this
          obtain rfl : x = vI rows[i][j] := by simp [hjl] at hj; exact hj.symm
          have hb := hrb _ (List.getElem_mem hir) _ (List.getElem_mem hjl)
          obtain rfl : r = eI (m[rows[i][j]]'(by omega)) := by
            simp [hjl] at hr
            rw [← hr]
            simp [show rows[i][j] < m.length by omega]
          refine ⟨_, rfl, _, rfl, ?_⟩
          refine rd_ixL (.lst (SqL.of ((e6.gg.trans e7.gg) _ _ hm1)) (dpA_ints m)) e7.gh (d := eI (m[rows[i][j]]'(by omega))) (by simp [show rows[i][j] < m.length by omega]) fun u hu => q7 _ _ _ (Ext.refl e7.gh) hu
        · obtain ⟨f1, f2⟩ := e7.keepM k1' g5 (by simp)
          have hal := dpA_len k2
          rw [List.length_map, namedF_len] at hal
          have him : i < m.length := by omega
          have hmi : m[i] < rows.length := by
            have := (hm.mem_iff.mp (List.getElem_mem him))
            exact List.mem_range.mp this
          refine ⟨_, rfl, _, rfl, _, rfl, ?_⟩
          refine rd_ixL (.lst (SqL.of ((e6.gg.trans e7.gg) _ _ hm1)) (dpA_ints m)) e7.gh (d := eI m[i]) (by simp [him]) fun u hu => ?_
          rw [dp_int hu]
          refine ⟨B, acc, _, m[i], rfl, rfl, f1, ixN_n (by omega), G7, acc.set m[i] (.ref B2), _, _, (e6.trans e7).mut (.inl hB) f2, f2, upd_same, ?_, ?_, rfl⟩
          · rw [namedF, show (rows.getD i []) = rows[i] by simp [List.getD, hir], show m.getD i 0 = m[i] by simp [List.getD, him], ← set_map]
            exact dpA_set (dpA_up e7.gg k2) (ld_dp d7)
          · have D7 := D6.over e7
            obtain ⟨ns, b, m1, m2, m3⟩ := D7.m
            simp at nB
            exact ⟨D7.gd, D7.gl, D7.dl, ns, b, by rw [upd_ne (fun z => nB.1 z.symm)]; exact m1, by rw [upd_ne (fun z => nB.2 z.symm)]; exact m2, m3⟩
      · rintro σ H5 ⟨G5, acc, v4, v5, e5, g5, k1, k2, D5, rfl⟩
        rw [hl] at k2
        have e7 := e5.pub hB g5 k1
        simp at nB
        refine ⟨_, rfl, q _ _ _ (e02.trans e7.dl) ⟨?_, ?_, D5.dl, D5.m⟩ ⟨m, hm, B, acc, rfl, upd_same, dpA_up (fun c o hc => by rw [upd_ne (ne_of_none hc g5)]; exact hc) k2⟩⟩
        · rw [upd_ne (fun z => nB.1 z.symm)]; exact D5.gd
        · rw [upd_ne (fun z => nB.2 z.symm)]; exact D5.gl
end
end K78

/-! text L7 -/
set_option Elab.async false
set_option linter.all false
set_option maxRecDepth 100000
set_option maxHeartbeats 4000000
namespace K78
open PySem PySem.Spec PyProof.Rows L2
/-! ### _law_awaited -/
def aRows (k size : Nat) (cs : List Nat) : List (List Nat) := cs.zipIdx.map fun p => (List.replicate k (size + 1)).set p.1 (p.2 + 1)
def awaitF (k size : Nat) (cs : List Nat) : List (List Nat) := aRows k size cs ++ [List.replicate k (size + 1), List.replicate k (size + 1)]
theorem aRows_snoc (k size : Nat) (cs : List Nat) (c : Nat) : aRows k size (cs ++ [c]) = aRows k size cs ++ [(List.replicate k (size + 1)).set c (cs.length + 1)] := by
  unfold aRows
  rw [List.zipIdx_append, List.map_append]
  simp
theorem aRows_len (k size : Nat) (cs : List Nat) : (aRows k size cs).length = cs.length := by simp [aRows]
section
variable {P : Program} {w : World} {K : PySem.W.Frag} {mg : Str → Option Value} {base : Heap} {C : Addr}
theorem rep_flat (n : Nat) (x : V) : (List.replicate n [x]).flatten = List.replicate n x := by
  induction n with
  | zero => rfl
  | succ n ih => rw [List.replicate_succ, List.flatten_cons, ih, List.replicate_succ]; rfl
theorem dpA_rep {G : Hp} (n x : Nat) : DpAll K G (List.replicate n (V.int (x : Int))) ((List.replicate n x).map eI) := by
  have := dpA_ints (K := K) (H := G) (List.replicate n x)
  rw [List.map_replicate] at this
  exact this
theorem Deal.upd1 {d l B : Addr} {G' H' : Hp} {o : HO} (D : Deal d l G' H') (h : B ∉ [d, l]) : Deal d l G' (upd H' B o) := by
  obtain ⟨ns, b, m1, m2, m3⟩ := D.m
  simp at h
  exact ⟨D.gd, D.gl, D.dl, ns, b, by rw [upd_ne (fun z => h.1 z.symm)]; exact m1, by rw [upd_ne (fun z => h.2 z.symm)]; exact m2, m3⟩
theorem Deal.pub1 {d l B : Addr} {G' H' : Hp} {o : HO} (D : Deal d l G' H') (h : B ∉ [d, l]) : Deal d l (upd G' B o) H' := by
  simp at h
  exact ⟨by rw [upd_ne (fun z => h.1 z.symm)]; exact D.gd, by rw [upd_ne (fun z => h.2 z.symm)]; exact D.gl, D.dl, D.m⟩
theorem gup1 {G' H' : Hp} {p : Addr} {o : HO} (gh : L2.Same G' H') (hp : H' p = none) : L2.Same G' (upd G' p o) := fun c u hc => by rw [upd_ne (ne_of_none hc (gh.free hp))]; exact hc
theorem gup2 {G' : Hp} {p : Addr} {o : HO} (hp : G' p = none) : L2.Same G' (upd G' p o) := fun c u hc => by rw [upd_ne (ne_of_none hc hp)]; exact hc
def spAwaited (K : PySem.W.Frag) : Sp := spD K fun G r Post => ∃ k size : Nat, r = [vI k, vI size] ∧ 1 ≤ k ∧ k ≤ 100 ∧ size ≤ 100 ∧ Post = fun G' v => ∃ cs : List Nat, cs.length = size ∧ (∀ c ∈ cs, c < k) ∧ Ld K G' v ((awaitF k size cs).map eL)
theorem sc_l_awaited : FnScope ["_law_deal", "_law_commands", "_law_size", "_law_rows", "_law_start", "_law_at", "_law_row"] ["_law_deal", "_law_commands", "_law_size"] (defScope s_l_awaited) := ⟨rfl, rfl, rfl, by decide +kernel, rfl, by decide +kernel, by decide +kernel⟩
theorem ok_l_awaited (T : Txt K mg C) (F : HasD K mg "_law_awaited" s_l_awaited) (d_l_any : Def P w K mg base "_law_any" 1 ["_law_deal", "_law_bound"] (spAny K)) (d_l_of : Def P w K mg base "_law_of" 2 ["_law_deal", "_law_some"] (spOf K)) : Def P w K mg base "_law_awaited" 3 ["_law_deal", "_law_commands", "_law_size"] (spAwaited K) := by
  refine mkDef F sc_l_awaited (fun _ _ _ _ _ _ us hl => match us, hl with | [_, _, _], _ => rfl) (fun vs H Q E h => ?_) fun f cdv A outer s H vs Q E hr h => ?_
  · obtain ⟨d, l, G, r, Post, rfl, _, _, ⟨k, size, rfl, _⟩, _⟩ := h
    rfl
  · obtain ⟨d, l, G, r, Post, rfl, gh, D, ⟨k, size, rfl, hk1, hk9, hs9, rfl⟩, q⟩ := h
    refine ⟨_, (pss_cons (ps_par (i := 3) (j := 4) rfl sc_l_awaited.nd rfl rfl (by decide) rfl rfl (pa_cons (pe_lst pa_nil) (pa_cons (pe_def d_l_any (hr.mono (by decide)) (by rfl) (pa_cons (pv 0) (pa_cons (pv 1) pa_nil))) pa_nil)) (by rfl)) (pss_cons (ps_for PassesOwn.never rfl (pi_range1 (by rfl) T.f_range (pa_cons (pv 2) pa_nil)) (pg_name (i := 5) sc_l_awaited.nd rfl (by first | exact Or.inl rfl | exact Or.inr rfl)) (pss_cons (ps_set (i := 6) sc_l_awaited.nd rfl (by first | exact Or.inl rfl | exact Or.inr rfl) (pe_op op_rep (pe_lst (pa_cons (pe_op op_add (pv 2) pe_int) pa_nil)) (pv 1))) (pss_cons (ps_asg (pe_op op_add (pv 5) pe_int) (pg_sub (pv 6) (pe_op op_modN (pe_callTy call_int1 (by rfl) T.f_int (by decide +kernel) (pa_cons (pe_op op_add (pe_op op_add (pv 4) (pv 5)) (pe_def d_l_of (hr.mono (by decide)) (by rfl) (pa_cons (pv 0) (pa_cons (pe_lst (pa_cons pe_int (pa_cons pe_int (pa_cons pe_int (pa_cons pe_int pa_nil))))) pa_nil)))) pa_nil)) (pv 1)) set_list)) (pss_one (ps_expr (pe_bm PySem.F.plainAttrs_list PySem.F.slot_list_append PySem.F.type_list_append mt_append (pv 3) (pa_cons (pv 6) pa_nil))))))) (pss_one (ps_ret (pe_op op_cat (pv 3) (pe_lst (pa_cons (pe_op op_rep (pe_lst (pa_cons (pe_op op_add (pv 2) pe_int) pa_nil)) (pv 1)) (pa_cons (pe_op op_rep (pe_lst (pa_cons (pe_op op_add (pv 2) pe_int) pa_nil)) (pv 1)) pa_nil)))))))), ?_⟩
    refine ⟨by show 0 ≤ sizeLine; decide, fun R hR => ?_⟩
    have nR := D.ne hR
    have e0 := (Ext.refl (X := []) gh).newM (o := .lst []) hR
    have D0 := D.over e0
    refine ⟨_, rfl, _, rfl, d, l, G, _, _, rfl, e0.gh, D0, ⟨k, rfl, hk1, by omega, rfl⟩, fun v G1 H1 e1 D1 ⟨x, hx, hv⟩ => ⟨_, _, rfl, ?_⟩⟩
    subst hv
    have k0 : upd H R (.lst []) R = some (.lst []) := upd_same
    obtain ⟨k1, g1⟩ := e1.keepM k0 (gh.free hR) nR
    have e01 := (e0.dl (d := d) (l := l)).trans e1
    refine ⟨_, rfl, (size : Int), rfl, by omega, by omega, ?_⟩
    rw [Int.toNat_natCast]
    refine for_it walk_range (fun i σ H' => ∃ (G' : Hp) (rs : List V) (cs : List Nat) (v5 v6 : Option V), Ext [d, l] G H G' H' ∧ Deal d l G' H' ∧ G' R = none ∧ H' R = some (.lst rs) ∧ DpAll K G' rs ((aRows k size cs).map eL) ∧ cs.length = i ∧ (∀ c ∈ cs, c < k) ∧ σ = [some (.ref d), some (vI k), some (vI size), some (.ref R), some (vI x), v5, v6])
      ⟨G1, [], [], none, none, e01, D1, g1, k1, .nil, rfl, fun c h => by simp at h, rfl⟩ (fun _ _ _ _ _ => trivial) ?_ ?_
    · rintro i z σ H2 H3 hi ⟨G2, rs, cs, v5, v6, e2, D2, g2, h1, h2, h3, h4, rfl⟩ ⟨rfl, rfl⟩
      have hz : (fun i : Nat => V.int (0 + (i : Int))) i = vI i := by simp
      rw [hz]
      refine ⟨_, rfl, _, _, rfl, rfl, by show 1 ≤ sizeLine; decide, fun p1 hp1 => ⟨_, rfl, p1, (k : Int), _, rfl, rfl, upd_same, by omega, by omega, by rw [Int.toNat_natCast]; exact Nat.le_trans (Nat.mul_le_mul_left 1 hk9) (by decide), fun p2 hp2 => ?_⟩⟩
      dsimp only at hp2 ⊢
      rw [Int.toNat_natCast, rep_flat, show ((size : Int) + 1) = ((size + 1 : Nat) : Int) by omega] at *
      have e3 := (Ext.refl (X := []) e2.gh).newM (o := .lst [V.int ((size + 1 : Nat) : Int)]) hp1
      have e4 := e3.newM (o := .lst (List.replicate k (V.int ((size + 1 : Nat) : Int)))) hp2
      have D4 := D2.over e4
      have hp20 : H3 p2 = none := e3.base hp2
      have k4 : upd (upd H3 p1 (.lst [V.int ((size + 1 : Nat) : Int)])) p2 (.lst (List.replicate k (V.int ((size + 1 : Nat) : Int)))) p2 = some (.lst (List.replicate k (V.int ((size + 1 : Nat) : Int)))) := upd_same
      obtain ⟨r4, _⟩ := e4.keepM h1 g2 (by simp)
      generalize upd (upd H3 p1 (.lst [V.int ((size + 1 : Nat) : Int)])) p2 (.lst (List.replicate k (V.int ((size + 1 : Nat) : Int)))) = H4 at e4 D4 k4 r4 ⊢
      have gp2 : G2 p2 = none := e2.gh.free hp20
      -- row[..] = at + 1
      refine ⟨_, rfl, _, _, rfl, rfl, _, rfl, ?_⟩
      refine ⟨_, rfl, _, rfl, _, _, rfl, rfl, _, rfl, by show 4 ≤ sizeLine; decide, fun p5 hp5 => ?_⟩
      have e5 := e4.new (o := .lst [.int 0, .int 0, .int 0, .int 1]) hp5
      have D5 := D2.over e5
      have k5 : upd H4 p5 (.lst [.int 0, .int 0, .int 0, .int 1]) p2 = some (.lst (List.replicate k (V.int ((size + 1 : Nat) : Int)))) := by rw [upd_ne (ne_of_none k4 hp5)]; exact k4
      have g5 : upd G2 p5 (.lst [.int 0, .int 0, .int 0, .int 1]) p2 = none := by rw [upd_ne (ne_of_none k4 hp5)]; exact gp2
      obtain ⟨r5, gr5⟩ := e5.keepM h1 g2 (by simp)
      refine ⟨d, l, _, _, _, rfl, e5.gh, D5, ⟨.ref p5, [0, 0, 0, 1], rfl, .lst (.of upd_same) (dpA_ints [0, 0, 0, 1]), by simp, by simp, rfl⟩, fun v G6 H6 e6 D6 ⟨y, hy, hv⟩ => ?_⟩
      subst hv
      have hy1 : y < 2 := by simp at hy; omega
      have hp2n : p2 ∉ [d, l] := D2.ne hp20
      obtain ⟨k6, g6⟩ := e6.keepM k5 g5 hp2n
      obtain ⟨r6, gr6⟩ := e6.keepM r5 gr5 nR
      have ei : Int.fmod ((x : Int) + (i : Int) + (y : Int)) (k : Int) = (((x + i + y) % k : Nat) : Int) := by rw [show ((x : Int) + (i : Int) + (y : Int)) = ((x + i + y : Nat) : Int) by omega, fmod_nat]
      have hc : (x + i + y) % k < k := Nat.mod_lt _ (by omega)
      refine ⟨_, _, rfl, rfl, .inl ⟨_, rfl, _, rfl, _, _, rfl, rfl, by omega, p2, _, (((x + i + y) % k : Nat) : Int), (x + i + y) % k, rfl, ?_, k6, by rw [List.length_replicate]; exact ixN_n hc, ?_⟩⟩
      · show V.int (Int.fmod ((x : Int) + (i : Int) + (y : Int)) (k : Int)) = _
        rw [ei]
      have e26 := (e2.trans e5.dl).trans e6
      have erow : (List.replicate k (V.int ((size + 1 : Nat) : Int))).set ((x + i + y) % k) (V.int ((i : Int) + 1)) = ((List.replicate k (size + 1)).set ((x + i + y) % k) (i + 1)).map vI := by
        rw [← set_map, List.map_replicate]
        congr 1
      have hp2H : H p2 = none := by
        cases z : H p2 with
        | none => rfl
        | some u => exact absurd hp20 (e2.th p2 (by rw [z]; simp))
      have e7 := e26.mut (o := .lst ((List.replicate k (V.int ((size + 1 : Nat) : Int))).set ((x + i + y) % k) (V.int ((i : Int) + 1)))) (.inl hp2H) g6
      have k7 : upd H6 p2 (.lst ((List.replicate k (V.int ((size + 1 : Nat) : Int))).set ((x + i + y) % k) (V.int ((i : Int) + 1)))) p2 = some (.lst (((List.replicate k (size + 1)).set ((x + i + y) % k) (i + 1)).map vI)) := by rw [upd_same, erow]
      have hRp : R ≠ p2 := ne_of_none h1 hp20
      have r7 : upd H6 p2 (.lst ((List.replicate k (V.int ((size + 1 : Nat) : Int))).set ((x + i + y) % k) (V.int ((i : Int) + 1)))) R = some (.lst rs) := by rw [upd_ne hRp]; exact r6
      have D7 := D6.upd1 (o := .lst ((List.replicate k (V.int ((size + 1 : Nat) : Int))).set ((x + i + y) % k) (V.int ((i : Int) + 1)))) hp2n
      dsimp only
      generalize upd H6 p2 (.lst ((List.replicate k (V.int ((size + 1 : Nat) : Int))).set ((x + i + y) % k) (V.int ((i : Int) + 1)))) = H7 at e7 k7 r7 D7 ⊢
      have e8 := e7.pub hp2H g6 k7
      have D8 := D7.pub1 (o := .lst (((List.replicate k (size + 1)).set ((x + i + y) % k) (i + 1)).map vI)) hp2n
      have d8 : Dp K (upd G6 p2 (.lst (((List.replicate k (size + 1)).set ((x + i + y) % k) (i + 1)).map vI))) (.ref p2) (eL ((List.replicate k (size + 1)).set ((x + i + y) % k) (i + 1))) := .lst (.of upd_same) (dpA_ints _)
      have gr8 : upd G6 p2 (.lst (((List.replicate k (size + 1)).set ((x + i + y) % k) (i + 1)).map vI)) R = none := by rw [upd_ne hRp]; exact gr6
      have g28 : L2.Same G2 (upd G6 p2 (.lst (((List.replicate k (size + 1)).set ((x + i + y) % k) (i + 1)).map vI))) := (e5.gg.trans e6.gg).trans (gup2 g6)
      generalize upd G6 p2 (.lst (((List.replicate k (size + 1)).set ((x + i + y) % k) (i + 1)).map vI)) = G8 at e8 D8 d8 gr8 g28
      have hrl := dpA_len h2
      rw [List.length_map, aRows_len] at hrl
      refine ⟨_, rfl, .inl ⟨rfl, _, .of r7⟩, _, rfl, R, rs, _, rfl, rfl, r7, Nat.lt_of_le_of_lt (show rs.length ≤ 1000 by omega) (by decide), G8, rs ++ [.ref p2], cs ++ [(x + i + y) % k], _, _, e8.mut (.inl hR) gr8, D8.upd1 nR, gr8, upd_same, ?_, by simp [h3], fun c hc' => ?_, rfl⟩
      · rw [aRows_snoc, List.map_append, h3]
        exact dpA_app (dpA_up g28 h2) (.cons d8 .nil)
      · rcases List.mem_append.mp hc' with hc' | hc'
        · exact h4 c hc'
        · rw [List.mem_singleton.mp hc']; exact hc
    · rintro σ H2 ⟨G2, rs, cs, v5, v6, e2, D2, g2, h1, h2, h3, h4, rfl⟩
      have mkrow : ∀ {G' H' : Hp}, Ext [] G2 H2 G' H' → True := fun _ => trivial
      refine ⟨_, rfl, ?_⟩
      refine ⟨_, rfl, _, _, rfl, rfl, by show 1 ≤ sizeLine; decide, fun p1 hp1 => ⟨_, rfl, p1, (k : Int), _, rfl, rfl, upd_same, by omega, by omega, by rw [Int.toNat_natCast]; exact Nat.le_trans (Nat.mul_le_mul_left 1 hk9) (by decide), fun p2 hp2 => ?_⟩⟩
      dsimp only at hp2 ⊢
      rw [Int.toNat_natCast, rep_flat, show ((size : Int) + 1) = ((size + 1 : Nat) : Int) by omega] at *
      have e4 := ((Ext.refl (X := []) e2.gh).newM (o := .lst [V.int ((size + 1 : Nat) : Int)]) hp1).new (o := .lst (List.replicate k (V.int ((size + 1 : Nat) : Int)))) hp2
      have d4 : Dp K (upd G2 p2 (.lst (List.replicate k (V.int ((size + 1 : Nat) : Int))))) (.ref p2) (eL (List.replicate k (size + 1))) := .lst (.of upd_same) (dpA_rep k (size + 1))
      generalize upd G2 p2 (.lst (List.replicate k (V.int ((size + 1 : Nat) : Int)))) = G4 at e4 d4
      generalize upd (upd H2 p1 (.lst [V.int ((size + 1 : Nat) : Int)])) p2 (.lst (List.replicate k (V.int ((size + 1 : Nat) : Int)))) = H4 at e4 ⊢
      refine ⟨_, rfl, _, _, rfl, rfl, by show 1 ≤ sizeLine; decide, fun p3 hp3 => ⟨_, rfl, p3, (k : Int), _, rfl, rfl, upd_same, by omega, by omega, by rw [Int.toNat_natCast]; exact Nat.le_trans (Nat.mul_le_mul_left 1 hk9) (by decide), fun p5 hp5 => ?_⟩⟩
      dsimp only at hp5 ⊢
      rw [Int.toNat_natCast, rep_flat, show ((size : Int) + 1) = ((size + 1 : Nat) : Int) by omega] at *
      have e6 := ((Ext.refl (X := []) e4.gh).newM (o := .lst [V.int ((size + 1 : Nat) : Int)]) hp3).new (o := .lst (List.replicate k (V.int ((size + 1 : Nat) : Int)))) hp5
      have d6 : Dp K (upd G4 p5 (.lst (List.replicate k (V.int ((size + 1 : Nat) : Int))))) (.ref p5) (eL (List.replicate k (size + 1))) := .lst (.of upd_same) (dpA_rep k (size + 1))
      generalize upd G4 p5 (.lst (List.replicate k (V.int ((size + 1 : Nat) : Int)))) = G6 at e6 d6
      generalize upd (upd H4 p3 (.lst [V.int ((size + 1 : Nat) : Int)])) p5 (.lst (List.replicate k (V.int ((size + 1 : Nat) : Int)))) = H6 at e6 ⊢
      refine ⟨by show 2 ≤ sizeLine; decide, fun p7 hp7 => ?_⟩
      have e26 := e4.trans e6
      obtain ⟨r6, gr6⟩ := e26.keepM h1 g2 (by simp)
      have r7 : upd H6 p7 (.lst [.ref p2, .ref p5]) R = some (.lst rs) := by rw [upd_ne (ne_of_none r6 hp7)]; exact r6
      have hrl := dpA_len h2
      rw [List.length_map, aRows_len] at hrl
      have e7 := e26.newM (o := .lst [.ref p2, .ref p5]) hp7
      refine ⟨R, p7, rs, _, rfl, rfl, r7, upd_same, Nat.le_trans (show rs.length + 2 ≤ 1000 by omega) (by decide), fun p8 hp8 => ?_⟩
      have e8 := e7.new (o := .lst (rs ++ [.ref p2, .ref p5])) hp8
      have g8 := gup1 (o := .lst (rs ++ [.ref p2, .ref p5])) e7.gh hp8
      refine q _ _ _ (e2.trans e8.dl) (D2.over e8) ⟨cs, h3, h4, p8, _, rfl, upd_same, ?_⟩
      unfold awaitF
      rw [List.map_append]
      exact dpA_app (dpA_up (e4.gg.trans (e6.gg.trans g8)) h2) (.cons (dp_up (e6.gg.trans g8) d4) (.cons (dp_up g8 d6) .nil))
end
end K78

/-! text L8 -/
set_option Elab.async false
set_option linter.all false
set_option maxRecDepth 100000
set_option maxHeartbeats 4000000
namespace K78
open PySem PySem.Spec PyProof.Rows L2
section
variable {P : Program} {w : World} {K : PySem.W.Frag} {mg : Str → Option Value} {base : Heap} {C : Addr} {G H : Hp}
theorem keys_dp {β : Type} {enc : β → PyData} {kvs : List (NestedKey × V)} {l : List β} {bs : List Addr} (e : KEnc enc) (h : Ks enc kvs l) (hbs : KeysAt K G kvs bs) : DpAll K G (bs.map V.ref) (l.map enc) := by
  refine dpA_of (by rw [List.length_map, List.length_map, hbs.1, h.length]) fun i u d h1 h2 => ?_
  rw [List.getElem?_map] at h1 h2
  cases zb : bs[i]? with
  | none => rw [zb] at h1; cases h1
  | some b =>
    cases zf : l[i]? with
    | none => rw [zf] at h2; cases h2
    | some r =>
      rw [zb] at h1
      rw [zf] at h2
      cases h1
      cases h2
      obtain ⟨pk, hpk⟩ : ∃ pk, kvs[i]? = some pk := by
        have : i < kvs.length := by rw [h.length]; exact (List.getElem?_eq_some_iff.mp zf).1
        exact ⟨_, List.getElem?_eq_getElem this⟩
      have hkd := hbs.2 i b pk zb hpk
      have : pk.1 = toK (enc r) := by
        have z := congrArg (fun l => l[i]?) h
        simp [hpk, zf] at z
        exact z
      rw [this] at hkd
      exact kd_dp K hkd (e.ok r)
/-- steps[s], steps a list of lists -/
theorem rd_rowL {st : V} {rows : List (List Nat)} {s : Nat} (h : Dp K G st (eLL rows)) (gh : L2.Same G H) (hs : s < rows.length) {Q : VK} (q : ∀ u, Dp K G u (eL rows[s]) → Q u H) : rIxL K st (vI s) H Q :=
  rd_ixL h gh (d := eL rows[s]) (by simp [hs]) q
theorem rd_natL {r : List Nat} {u : V} {c : Nat} (h : Dp K G u (eL r)) (gh : L2.Same G H) (hc : c < r.length) {Q : VK} (q : Q (vI r[c]) H) : rIxL K u (vI c) H Q :=
  rd_ixL h gh (d := eI r[c]) (by simp [hc]) fun w hw => by rw [dp_int hw]; exact q
theorem dp_rowL {u : V} {r : List Nat} (h : Dp K G u (eL r)) : ∃ a, u = .ref a ∧ SqL K G a (r.map vI) := by
  obtain ⟨a, xs, rfl, h1, h2⟩ := dp_list h
  rw [dpAll_ints h2] at h1
  exact ⟨a, rfl, h1⟩
theorem inV_nat (x : Nat) (l : List Nat) : inV (vI x) (l.map vI) = decide (x ∈ l) := by
  unfold inV
  induction l with
  | nil => simp
  | cons a l ih =>
    rw [List.map_cons, List.any_cons, ih]
    by_cases z : x = a
    · subst z; simp [eqV]
    · have : ¬ ((a : Int) = (x : Int)) := by omega
      have : ¬ ((x : Int) = (a : Int)) := by omega
      simp [eqV, z, *]
/-! ### _law_led -/
def spLed (K : PySem.W.Frag) : Sp := pureSp fun G vs Post => ∃ (u v : V) (k : Nat) (rows : List (List Nat)) (S : List Nat), vs = [u, v] ∧ Dp K G u (eLL rows) ∧ OkS k rows ∧ Dp K G v (eL S) ∧ (∀ s ∈ S, s < rows.length) ∧ Post = fun G' v => ∃ S' : List Nat, (∀ t, t ∈ S' ↔ Onto rows S t) ∧ S'.length ≤ 40 ∧ Ld K G' v (S'.map eI)
theorem sc_l_led : FnScope ["_law_steps_here", "_law_states", "_law_found", "_law_state", "_law_to"] ["_law_steps_here", "_law_states"] (defScope s_l_led) := ⟨rfl, rfl, rfl, by decide +kernel, rfl, by decide +kernel, by decide +kernel⟩
theorem ok_l_led (T : Txt K mg C) (F : HasD K mg "_law_led" s_l_led) : Def P w K mg base "_law_led" 1 ["_law_steps_here", "_law_states"] (spLed K) := by
  refine mkDef F sc_l_led (fun _ _ _ _ _ _ us hl => match us, hl with | [_, _], _ => rfl) (fun vs H Q E h => ?_) fun f cdv A outer s H vs Q E hr h => ?_
  · obtain ⟨G, Post, _, ⟨u, v, k, rows, S, rfl, _⟩, _⟩ := h
    rfl
  · obtain ⟨G, Post, gh, ⟨u, v, k, rows, S, rfl, hu, ok, hv, hS, rfl⟩, q⟩ := h
    refine ⟨_, (pss_cons (ps_set (i := 2) sc_l_led.nd rfl (by first | exact Or.inl rfl | exact Or.inr rfl) (pe_lst pa_nil)) (pss_cons (ps_for PassesOwn.never rfl (piL K (pv 1)) (pg_name (i := 3) sc_l_led.nd rfl (by first | exact Or.inl rfl | exact Or.inr rfl)) (pss_one (ps_for PassesOwn.never rfl (piL K (pe_ix (ixL K) (pv 0) (pv 3) (fun _ _ => rfl))) (pg_name (i := 4) sc_l_led.nd rfl (by first | exact Or.inl rfl | exact Or.inr rfl)) (pss_one (ps_if (pt_cmpR (niS K) (pv 4) (pv 2) (by rfl)) (pss_one (ps_expr (pe_bm PySem.F.plainAttrs_list PySem.F.slot_list_append PySem.F.type_list_append mt_append (pv 2) (pa_cons (pv 4) pa_nil)))) pss_nil))))) (pss_one (ps_ret (pv 2))))), ?_⟩
    obtain ⟨a, rfl, ha⟩ := dp_rowL hv
    refine ⟨by show 0 ≤ sizeLine; decide, fun R hR => ?_⟩
    have e0 := (Ext.refl (X := []) gh).newM (o := .lst []) hR
    have few : ∀ {L : List Nat}, L.Nodup → (∀ x ∈ L, x < rows.length) → L.length ≤ 40 := fun nd hb => by
      have := nodup_le nd (m := List.range rows.length) fun x hx => List.mem_range.mpr (hb x hx)
      have := ok.n
      simp at *
      omega
    refine ⟨_, rfl, a, rfl, ⟨_, e0.gh.seq ha⟩, for_it (walk_list (K := K) (a := a) (xs := S.map vI)) (fun i σ H' => ∃ (L : List Nat) (v3 v4 : Option V), Ext [] G H G H' ∧ H' R = some (.lst (L.map vI)) ∧ L.Nodup ∧ (∀ t, t ∈ L ↔ Onto rows (S.take i) t) ∧ σ = [some u, some (.ref a), some (.ref R), v3, v4])
      ⟨[], none, none, e0, upd_same, by simp, fun t => by simp [Onto], rfl⟩ (fun i σ H' _ ⟨_, _, _, e, _⟩ => e.gh.seq ha) ?_ ?_⟩
    · rintro i x σ H1 H2 hi ⟨L, v3, v4, e, h1, nd, hm, rfl⟩ ⟨rfl, hx⟩
      rw [List.length_map] at hi
      obtain rfl : x = vI S[i] := by simp [hi] at hx; exact hx.symm
      have hsl := hS _ (List.getElem_mem hi)
      refine ⟨_, rfl, _, rfl, ?_⟩
      refine rd_rowL hu e.gh hsl fun rv hrv => ?_
      obtain ⟨ra, rfl, hra⟩ := dp_rowL hrv
      refine ⟨ra, rfl, ⟨_, e.gh.seq hra⟩, for_it (walk_list (K := K) (a := ra) (xs := rows[S[i]].map vI)) (fun j σ H' => ∃ (L : List Nat) (v4 : Option V), Ext [] G H G H' ∧ H' R = some (.lst (L.map vI)) ∧ L.Nodup ∧ (∀ t, t ∈ L ↔ (Onto rows (S.take i) t ∨ t ∈ rows[S[i]].take j)) ∧ σ = [some u, some (.ref a), some (.ref R), some (vI S[i]), v4])
        ⟨L, v4, e, h1, nd, fun t => by simp [hm t], rfl⟩ (fun i σ H' _ ⟨_, _, e, _⟩ => e.gh.seq hra) ?_ ?_⟩
      · rintro j x σ H3 H4 hj ⟨L, v4, e, h1, nd, hm, rfl⟩ ⟨rfl, hx⟩
        rw [List.length_map] at hj
        obtain rfl : x = vI rows[S[i]][j] := by simp [hj] at hx; exact hx.symm
        have hlt : ∀ x ∈ L, x < rows.length := fun x hx => by
          rcases (hm x).mp hx with ⟨s, hs, ht⟩ | h
          · have hsl := hS s (List.mem_of_mem_take hs)
            simp only [List.getD, List.getElem?_eq_getElem hsl, Option.getD_some] at ht
            exact ok.m.rb _ (List.getElem_mem hsl) x ht
          · exact ok.m.rb _ (List.getElem_mem hsl) x (List.mem_of_mem_take h)
        have hfew := few nd hlt
        refine ⟨_, rfl, _, rfl, R, L.map vI, rfl, .inl (.of h1), rfl, by simp [flatV], _, rfl, ?_⟩
        have hmem' : ∀ {L' : List Nat}, (∀ t, t ∈ L' ↔ t = rows[S[i]][j] ∨ t ∈ L) → ∀ t, t ∈ L' ↔ (Onto rows (S.take i) t ∨ t ∈ rows[S[i]].take (j + 1)) := fun {L'} h t => by
          rw [h, hm, List.take_succ_eq_append_getElem hj, List.mem_append, List.mem_singleton]
          constructor
          · rintro (h | h | h)
            · exact .inr (.inr h)
            · exact .inl h
            · exact .inr (.inl h)
          · rintro (h | h | h)
            · exact .inr (.inl h)
            · exact .inr (.inr h)
            · exact .inl h
        rw [inV_nat]
        by_cases hin : rows[S[i]][j] ∈ L
        · refine iteFb (by simp [hin]) ⟨L, _, e, h1, nd, hmem' fun t => ⟨.inr, fun h => h.elim (fun z => by rw [z]; exact hin) id⟩, rfl⟩
        · refine iteTb (by simp [hin]) ⟨_, rfl, .inl ⟨rfl, _, .of h1⟩, _, rfl, R, _, _, rfl, rfl, h1, by rw [List.length_map]; exact Nat.lt_of_le_of_lt hfew (by decide), L ++ [rows[S[i]][j]], _, e.mut (.inl hR) (gh.free hR), by rw [upd_same]; simp, ?_, hmem' fun t => by simp [or_comm], rfl⟩
          rw [List.nodup_append]
          exact ⟨nd, by simp, fun a ha b hb e => hin (by rw [List.mem_singleton.mp hb] at e; rw [← e]; exact ha)⟩
      · rintro σ H3 ⟨L, v4, e, h1, nd, hm, rfl⟩
        rw [List.length_map, List.take_length] at hm
        refine ⟨L, _, _, e, h1, nd, fun t => ?_, rfl⟩
        rw [hm, List.take_succ_eq_append_getElem hi]
        constructor
        · rintro (⟨s, hs, ht⟩ | h)
          · exact ⟨s, List.mem_append_left _ hs, ht⟩
          · exact ⟨S[i], List.mem_append_right _ (by simp), by simpa [List.getD, hsl] using h⟩
        · rintro ⟨s, hs, ht⟩
          rcases List.mem_append.mp hs with hs | hs
          · exact .inl ⟨s, hs, ht⟩
          · rw [List.mem_singleton.mp hs] at ht
            exact .inr (by simpa [List.getD, hsl] using ht)
    · rintro σ H1 ⟨L, v3, v4, e, h1, nd, hm, rfl⟩
      rw [List.length_map, List.take_length] at hm
      have hlt : ∀ x ∈ L, x < rows.length := fun x hx => by
        obtain ⟨s, hs, ht⟩ := (hm x).mp hx
        have hsl := hS s hs
        simp only [List.getD, List.getElem?_eq_getElem hsl, Option.getD_some] at ht
        exact ok.m.rb _ (List.getElem_mem hsl) x ht
      exact ⟨_, rfl, q _ _ _ (e.pub hR (gh.free hR) h1) ⟨L, hm, few nd hlt, R, _, rfl, upd_same, dpA_ints L⟩⟩
/-! ### _law_carried -/
def spLCarried (K : PySem.W.Frag) : Sp := pureSp fun G vs Post => ∃ (u v : V) (k : Nat) (rows : List (List Nat)) (l : List (Nat × Nat)), vs = [u, v] ∧ Dp K G u (eLL rows) ∧ OkS k rows ∧ Dp K G v (eLP l) ∧ (∀ q ∈ l, q.1 < rows.length ∧ q.2 < rows.length) ∧
  Post = fun G' v => ∃ l' : List (Nat × Nat), (∀ x, x ∈ l' ↔ ∃ q ∈ l, ∃ c < k, x = (at2 rows q.1 c, at2 rows q.2 c)) ∧ l'.length ≤ 1600 ∧ Ld K G' v (l'.map eP)
theorem sc_l_carried : FnScope ["_law_steps_here", "_law_pairs", "_law_found", "_law_one", "_law_other", "_law_both"] ["_law_steps_here", "_law_pairs"] (defScope s_l_carried) := ⟨rfl, rfl, rfl, by decide +kernel, rfl, by decide +kernel, by decide +kernel⟩
theorem ok_l_carried (T : Txt K mg C) (F : HasD K mg "_law_carried" s_l_carried) : Def P w K mg base "_law_carried" 1 ["_law_steps_here", "_law_pairs"] (spLCarried K) := by
  refine mkDef F sc_l_carried (fun _ _ _ _ _ _ us hl => match us, hl with | [_, _], _ => rfl) (fun vs H Q E h => ?_) fun f cdv A outer s H vs Q E hr h => ?_
  · obtain ⟨G, Post, _, ⟨u, v, k, rows, l, rfl, _⟩, _⟩ := h
    rfl
  · obtain ⟨G, Post, gh, ⟨u, v, k, rows, l, rfl, hst, ok, hu, hlt, rfl⟩, q⟩ := h
    refine ⟨_, (pss_cons (ps_set (i := 2) sc_l_carried.nd rfl (by first | exact Or.inl rfl | exact Or.inr rfl) (dnewN P w K)) (pss_cons (ps_for PassesOwn.never rfl (piL K (pv 1)) (pgT K (n := 2) (pgs_cons (pg_name (i := 3) sc_l_carried.nd rfl (by first | exact Or.inl rfl | exact Or.inr rfl)) (pgs_cons (pg_name (i := 4) sc_l_carried.nd rfl (by first | exact Or.inl rfl | exact Or.inr rfl)) pgs_nil))) (pss_one (ps_for PassesOwn.never rfl (pi_zipG K false (by rfl) T.f_zip (pa_cons (pe_ix (ixL K) (pv 0) (pv 3) (fun _ _ => rfl)) (pa_cons (pe_ix (ixL K) (pv 0) (pv 4) (fun _ _ => rfl)) pa_nil))) (pg_name (i := 5) sc_l_carried.nd rfl (by first | exact Or.inl rfl | exact Or.inr rfl)) (pss_one (dputN P w K (hu9 hr) (pv 2) (pv 5) pe_bl))))) (pss_one (ps_ret (pe_callTy (listN P w K) (by rfl) T.f_list (by decide +kernel) (pa_cons (pv 2) pa_nil)))))), ?_⟩
    obtain ⟨la, lx, rfl, hl1, hl2⟩ := dp_list hu
    have hll := dpA_len hl2
    rw [List.length_map] at hll
    have few : ∀ {fk : List (Nat × Nat)}, fk.Nodup → (∀ x ∈ fk, x.1 < rows.length ∧ x.2 < rows.length) → fk.length ≤ 1600 := fun nd hb => by
      have h1 := nodup_le nd (m := pairsAll 40) fun x hx => mem_pairsAll.mpr (by have := hb x hx; have := ok.n; omega)
      have h2 : (pairsAll 40).length = 1600 := by decide
      omega
    refine fun D hD hDat => ?_
    have e0 := (Ext.refl (X := []) gh).newM (o := DN P w D []) hD
    have D0 := hDat G
    generalize upd H D (DN P w D []) = H1 at e0 D0
    refine ⟨_, rfl, la, rfl, ⟨_, e0.gh.seq hl1⟩, for_it (walk_list (K := K) (a := la) (xs := lx)) (fun i σ H' => ∃ G' kvs fk v3 v4 v5, Ext [] G H G' H' ∧ G' D = none ∧ DAt P w K G' H' D kvs ∧ Ks eP kvs fk ∧ fk.Nodup ∧ (∀ x, x ∈ fk ↔ ∃ q ∈ l.take i, ∃ c < k, x = (at2 rows q.1 c, at2 rows q.2 c)) ∧
        σ = [some u, some (.ref la), some (.ref D), v3, v4, v5])
      ⟨G, [], [], none, none, none, e0, gh.free hD, D0, rfl, by simp, fun x => by simp, rfl⟩ (fun i σ H' _ ⟨G', _, _, _, _, _, e, _⟩ => (e.gg.trans e.gh).seq hl1) ?_ ?_⟩
    · rintro i x σ H2 H3 hi ⟨G', kvs, fk, v3, v4, v5, e, gD, DD, hk, nd, hm, rfl⟩ ⟨rfl, hx⟩
      have hil : i < l.length := by rw [← hll]; exact hi
      obtain ⟨d, hd, hx2⟩ := dpA_at' hl2 hx
      obtain rfl : d = eP l[i] := by simp [hil] at hd; exact hd.symm
      obtain ⟨xa, xx, rfl, hx3, hx4⟩ := dp_tuple hx2
      obtain rfl : xx = [vI l[i].1, vI l[i].2] := by
        cases hx4 with
        | cons h1 h2 =>
          cases h2 with
          | cons h3 h4 => cases h4; rw [dp_int h1, dp_int h3]
      have hb := hlt _ (List.getElem_mem hil)
      refine ⟨xa, _, rfl, same_t (e.gg.trans e.gh) hx3, rfl, _, _, rfl, _, _, rfl, rfl, ?_⟩
      have hr1 := ok.m.rl _ (List.getElem_mem hb.1)
      have hr2 := ok.m.rl _ (List.getElem_mem hb.2)
      refine ⟨_, rfl, _, rfl, ?_⟩
      refine rd_rowL (dp_up e.gg hst) e.gh hb.1 fun u1 hu1 => ?_
      refine ⟨_, rfl, _, rfl, ?_⟩
      refine rd_rowL (dp_up e.gg hst) e.gh hb.2 fun u2 hu2 => ?_
      obtain ⟨a1, rfl, hs1⟩ := dp_rowL hu1
      obtain ⟨a2, rfl, hs2⟩ := dp_rowL hu2
      refine ⟨a1, a2, _, _, rfl, e.gh.seq hs1, e.gh.seq hs2, for_it (walk_zipG (K := K) (t := false) (n := k) (xs := rows[l[i].1].map vI) (ys := rows[l[i].2].map vI) (by simp [hr1]) (by simp [hr2])) (fun c σ H' => ∃ G'' kvs fk v5, Ext [] G H G'' H' ∧ L2.Same G' G'' ∧ G'' D = none ∧ DAt P w K G'' H' D kvs ∧ Ks eP kvs fk ∧ fk.Nodup ∧ (∀ x, x ∈ fk ↔ (∃ q ∈ l.take i, ∃ c < k, x = (at2 rows q.1 c, at2 rows q.2 c)) ∨ ∃ d < c, x = (at2 rows l[i].1 d, at2 rows l[i].2 d)) ∧
          σ = [some u, some (.ref la), some (.ref D), some (vI l[i].1), some (vI l[i].2), v5])
        ⟨G', kvs, fk, v5, e, L2.Same.refl _, gD, DD, hk, nd, fun x => by simp [hm x], rfl⟩ (fun c σ H' _ ⟨G'', _, _, _, e2, g2, _⟩ => ⟨(g2.trans e2.gh).seq hs1, (g2.trans e2.gh).seq hs2⟩) ?_ ?_⟩
      · rintro c x σ H4 H5 hc ⟨G'', kvs, fk, v5, e2, g2, gD, DD, hk, nd, hm, rfl⟩ ⟨T1, y1, y2, rfl, hT, rfl, hy1, hy2⟩
        have c1 : c < rows[l[i].1].length := by omega
        have c2 : c < rows[l[i].2].length := by omega
        obtain rfl : y1 = vI (at2 rows l[i].1 c) := by
          rw [at2_eq ok.m hb.1 c1]
          simp [c1] at hy1; exact hy1.symm
        obtain rfl : y2 = vI (at2 rows l[i].2 c) := by
          rw [at2_eq ok.m hb.2 c2]
          simp [c2] at hy2; exact hy2.symm
        have e3 := e2.new (o := .tup [vI (at2 rows l[i].1 c), vI (at2 rows l[i].2 c)]) hT
        have hne : D ≠ T1 := fun z => by
          obtain ⟨o, ho⟩ := dat_some DD
          rw [z, hT] at ho; cases ho
        have gup := gup1 (o := .tup [vI (at2 rows l[i].1 c), vI (at2 rows l[i].2 c)]) e2.gh hT
        have gD3 : upd G'' T1 (.tup [vI (at2 rows l[i].1 c), vI (at2 rows l[i].2 c)]) D = none := by rw [upd_ne hne]; exact gD
        have hfew := few nd fun x hx => by
          rcases (hm x).mp hx with ⟨q, hq, d, hd, rfl⟩ | ⟨d, hd, rfl⟩
          · have := hlt q (List.mem_of_mem_take hq)
            exact ⟨at2_lt ok.m this.1 hd, at2_lt ok.m this.2 hd⟩
          · exact ⟨at2_lt ok.m hb.1 (by omega), at2_lt ok.m hb.2 (by omega)⟩
        refine ⟨_, rfl, _, rfl, D, _, kvs, toK (eP (at2 rows l[i].1 c, at2 rows l[i].2 c)), rfl, e3.gh, gD3, dat_up DD gup (upd_ne hne), kd_pair (sqT_pair (.of upd_same)), by rw [hk.length]; exact Nat.lt_of_le_of_lt hfew (by decide), fun o D4 => ?_⟩
        refine ⟨_, _, addP fk (at2 rows l[i].1 c, at2 rows l[i].2 c), _, e3.mut (.inl hD) gD3, g2.trans gup, gD3, D4, ks_addP hk, nodup_addP nd, fun x => ?_, rfl⟩
        rw [mem_addP, hm]
        constructor
        · rintro (rfl | h | ⟨d, hd, h⟩)
          · exact .inr ⟨c, Nat.lt_succ_self _, rfl⟩
          · exact .inl h
          · exact .inr ⟨d, Nat.lt_succ_of_lt hd, h⟩
        · rintro (h | ⟨d, hd, h⟩)
          · exact .inr (.inl h)
          · by_cases z : d = c
            · rw [z] at h; exact .inl h
            · exact .inr (.inr ⟨d, by omega, h⟩)
      · rintro σ H4 ⟨G'', kvs, fk, v5, e2, g2, gD, DD, hk, nd, hm, rfl⟩
        refine ⟨G'', kvs, fk, _, _, _, e2, gD, DD, hk, nd, fun x => ?_, rfl⟩
        rw [hm, List.take_succ_eq_append_getElem hil]
        constructor
        · rintro (⟨q, hq, h⟩ | h)
          · exact ⟨q, List.mem_append_left _ hq, h⟩
          · exact ⟨l[i], List.mem_append_right _ (by simp), h⟩
        · rintro ⟨q, hq, h⟩
          rcases List.mem_append.mp hq with hq | hq
          · exact .inl ⟨q, hq, h⟩
          · rw [List.mem_singleton.mp hq] at h; exact .inr h
    · rintro σ H2 ⟨G', kvs, fk, v3, v4, v5, e, gD, DD, hk, nd, hm, rfl⟩
      rw [hll, List.take_length] at hm
      have hfew := few nd fun x hx => by
        obtain ⟨q, hq, d, hd, rfl⟩ := (hm x).mp hx
        have := hlt q hq
        exact ⟨at2_lt ok.m this.1 hd, at2_lt ok.m this.2 hd⟩
      refine ⟨_, rfl, D, G', kvs, rfl, e.gh, DD, by rw [hk.length]; exact Nat.le_trans hfew (by decide), fun t bs ht hbs => ?_⟩
      exact q _ _ _ (e.new ht) ⟨fk, hm, hfew, t, _, rfl, upd_same, dpA_up (gup1 e.gh ht) (keys_dp kPair hk hbs)⟩
end
end K78

/-! text L9 -/
set_option Elab.async false
set_option linter.all false
set_option maxRecDepth 100000
set_option maxHeartbeats 4000000
namespace K78
open PySem PySem.Spec PyProof.Rows L2
/-! ### _law_may, plain -/
def crossF (rows : List (List Nat)) (l : List (Nat × Nat)) (a c : Nat) : List (Nat × Nat) := l.map fun q => (at2 rows q.1 c, at2 rows q.2 a)
def iterC (k : Nat) (rows : List (List Nat)) (l : List (Nat × Nat)) : Nat → List (Nat × Nat)
  | 0 => l
  | j + 1 => carrF k rows (iterC k rows l j)
/-- the pairs at the end -/
def endsF (k : Nat) (rows : List (List Nat)) (b s e x c : Nat) : List (Nat × Nat) := iterC k rows (crossF rows (seqF k rows (behF rows b) x c (s - 1)) x c) e
def mayB (k : Nat) (rows : List (List Nat)) (b s e : Nat) : Bool := (List.range k).all fun x => (List.range x).all fun c => (endsF k rows b s e x c).all fun q => decide (q.1 = q.2)
section
variable {k : Nat} {rows : List (List Nat)}
theorem iterC_lt (l : List (Nat × Nat)) (h : ∀ q ∈ l, q.1 < rows.length ∧ q.2 < rows.length) (j : Nat) : ∀ q ∈ iterC k rows l j, q.1 < rows.length ∧ q.2 < rows.length := by
  cases j with
  | zero => exact h
  | succ j => exact carrF_lt
theorem crossF_lt (ok : OkM k rows) {l : List (Nat × Nat)} (h : ∀ q ∈ l, q.1 < rows.length ∧ q.2 < rows.length) {a c : Nat} (ha : a < k) (hc : c < k) : ∀ q ∈ crossF rows l a c, q.1 < rows.length ∧ q.2 < rows.length := by
  intro q hq
  obtain ⟨p, hp, rfl⟩ := List.mem_map.mp hq
  exact ⟨at2_lt ok (h p hp).1 hc, at2_lt ok (h p hp).2 ha⟩
end
section
variable {P : Program} {w : World} {K : PySem.W.Frag} {mg : Str → Option Value} {base : Heap} {C : Addr} {G H : Hp}
theorem at2L {st : V} {rows : List (List Nat)} {k s c : Nat} (ok : OkM k rows) (h : Dp K G st (eLL rows)) (gh : L2.Same G H) (hs : s < rows.length) (hc : c < k) {Q : VK} (q : Q (vI (at2 rows s c)) H) : rIxL K st (vI s) H fun y H2 => rIxL K y (vI c) H2 Q := by
  have hr := ok.rl _ (List.getElem_mem hs)
  refine rd_rowL h gh hs fun u hu => ?_
  refine rd_natL hu gh (c := c) (by omega) ?_
  rw [← at2_eq ok hs (by omega : c < rows[s].length)]
  exact q
/-- a list of pairs, read -/
theorem lp_get {v : V} {l : List (Nat × Nat)} (h : Dp K G v (eLP l)) : ∃ a xs, v = .ref a ∧ SqL K G a xs ∧ xs.length = l.length ∧ ∀ (i : Nat) x, xs[i]? = some x → ∃ (hi : i < l.length) (t : Addr), x = .ref t ∧ SqT K G t [vI l[i].1, vI l[i].2] := by
  obtain ⟨a, xs, rfl, h1, h2⟩ := dp_list h
  have hl := dpA_len h2
  rw [List.length_map] at hl
  refine ⟨a, xs, rfl, h1, hl, fun i x hx => ?_⟩
  have hi : i < l.length := by rw [← hl]; exact (List.getElem?_eq_some_iff.mp hx).1
  obtain ⟨d, hd, hx2⟩ := dpA_at' h2 hx
  obtain rfl : d = eP l[i] := by simp [hi] at hd; exact hd.symm
  obtain ⟨t, tx, rfl, h3, h4⟩ := dp_tuple hx2
  obtain rfl : tx = [vI l[i].1, vI l[i].2] := by
    cases h4 with
    | cons k1 k2 =>
      cases k2 with
      | cons k3 k4 => cases k4; rw [dp_int k1, dp_int k3]
  exact ⟨hi, t, rfl, h3⟩
def spLMay (K : PySem.W.Frag) : Sp := pureSp fun G vs Post => ∃ (u : V) (k : Nat) (rows : List (List Nat)) (b s e : Nat), vs = [u, vI b, vI s, vI e] ∧ Dp K G u (eLL rows) ∧ OkS k rows ∧ k ≤ 40 ∧ b ≤ 100 ∧ 1 ≤ s ∧ s ≤ 100 ∧ e ≤ 100 ∧ Post = fun G' v => v = .bl (mayB k rows b s e)
theorem sc_l_may : FnScope ["_law_steps_here", "_law_before", "_law_step", "_law_after", "_law_states", "_law_turn", "_law_a", "_law_c", "_law_pairs", "_law_state", "_law_one", "_law_other"] ["_law_steps_here", "_law_before", "_law_step", "_law_after"] (defScope s_l_may) := ⟨rfl, rfl, rfl, by decide +kernel, rfl, by decide +kernel, by decide +kernel⟩
theorem ok_l_may (T : Txt K mg C) (F : HasD K mg "_law_may" s_l_may) (d_l_led : Def P w K mg base "_law_led" 1 ["_law_steps_here", "_law_states"] (spLed K)) (d_l_carried : Def P w K mg base "_law_carried" 1 ["_law_steps_here", "_law_pairs"] (spLCarried K)) : Def P w K mg base "_law_may" 2 ["_law_steps_here", "_law_before", "_law_step", "_law_after"] (spLMay K) := by
  refine mkDef F sc_l_may (fun _ _ _ _ _ _ us hl => match us, hl with | [_, _, _, _], _ => rfl) (fun vs H Q E h => ?_) fun f cdv A outer s H vs Q E hr h => ?_
  · obtain ⟨G, Post, _, ⟨u, k, rows, b, s, e, rfl, _⟩, _⟩ := h
    rfl
  · obtain ⟨G, Post, gh, ⟨u, k, rows, b, s, e, rfl, hu, ok, hk, hb9, hs1, hs9, he9, rfl⟩, q⟩ := h
    refine ⟨_, (pss_cons (ps_set (i := 4) sc_l_may.nd rfl (by first | exact Or.inl rfl | exact Or.inr rfl) (pe_listRg rfl (by rfl) T.f_list (prg_1 (by rfl) T.f_range (pe_callB (lenS K) (by rfl) T.f_len (by decide +kernel) (pa_cons (pv 0) pa_nil))))) (pss_cons (ps_for PassesOwn.never rfl (pi_range1 (by rfl) T.f_range (pa_cons (pv 1) pa_nil)) (pg_name (i := 5) sc_l_may.nd rfl (by first | exact Or.inl rfl | exact Or.inr rfl)) (pss_one (ps_set (i := 4) sc_l_may.nd rfl (by first | exact Or.inl rfl | exact Or.inr rfl) (pe_def d_l_led (hr.mono (by decide)) (by rfl) (pa_cons (pv 0) (pa_cons (pv 4) pa_nil)))))) (pss_cons (ps_for PassesOwn.never rfl (pi_range1 (by rfl) T.f_range (pa_cons (pe_callB (lenS K) (by rfl) T.f_len (by decide +kernel) (pa_cons (pe_ix (ixL K) (pv 0) pe_int (fun _ _ => rfl)) pa_nil)) pa_nil)) (pg_name (i := 6) sc_l_may.nd rfl (by first | exact Or.inl rfl | exact Or.inr rfl)) (pss_one (ps_for PassesOwn.never rfl (pi_range1 (by rfl) T.f_range (pa_cons (pv 6) pa_nil)) (pg_name (i := 7) sc_l_may.nd rfl (by first | exact Or.inl rfl | exact Or.inr rfl)) (pss_cons (ps_setLc (i := 8) (own := [("_law_state", 9)]) rfl sc_l_may.nd rfl rfl (sw_true rfl rfl rfl (by decide +kernel)) (piL K (pv 4)) (blkOk_by (own := [("_law_state", 9)]) (by kernel_rfl)) (fun _ _ _ _ _ => (pg_name (i := 9) sc_l_may.nd rfl (by first | exact Or.inl rfl | exact Or.inr rfl))) (fun _ _ _ _ _ => pts_nil) (fun _ _ _ _ _ => (pe_tup (pa_cons (pe_ix (ixL K) (pe_ix (ixL K) (pv 0) (pv 9) (fun _ _ => rfl)) (pv 6) (fun _ _ => rfl)) (pa_cons (pe_ix (ixL K) (pe_ix (ixL K) (pv 0) (pv 9) (fun _ _ => rfl)) (pv 7) (fun _ _ => rfl)) pa_nil))))) (pss_cons (ps_for PassesOwn.never rfl (pi_range1 (by rfl) T.f_range (pa_cons (pe_op op_sub (pv 2) pe_int) pa_nil)) (pg_name (i := 5) sc_l_may.nd rfl (by first | exact Or.inl rfl | exact Or.inr rfl)) (pss_one (ps_set (i := 8) sc_l_may.nd rfl (by first | exact Or.inl rfl | exact Or.inr rfl) (pe_def d_l_carried (hr.mono (by decide)) (by rfl) (pa_cons (pv 0) (pa_cons (pv 8) pa_nil)))))) (pss_cons (ps_setLc (i := 8) (own := [("_law_one", 10), ("_law_other", 11)]) rfl sc_l_may.nd rfl rfl (sw_true rfl rfl rfl (by decide +kernel)) (piL K (pv 8)) (blkOk_by (own := [("_law_one", 10), ("_law_other", 11)]) (by kernel_rfl)) (fun _ _ _ _ _ => (pgT K (n := 2) (pgs_cons (pg_name (i := 10) sc_l_may.nd rfl (by first | exact Or.inl rfl | exact Or.inr rfl)) (pgs_cons (pg_name (i := 11) sc_l_may.nd rfl (by first | exact Or.inl rfl | exact Or.inr rfl)) pgs_nil)))) (fun _ _ _ _ _ => pts_nil) (fun _ _ _ _ _ => (pe_tup (pa_cons (pe_ix (ixL K) (pe_ix (ixL K) (pv 0) (pv 10) (fun _ _ => rfl)) (pv 7) (fun _ _ => rfl)) (pa_cons (pe_ix (ixL K) (pe_ix (ixL K) (pv 0) (pv 11) (fun _ _ => rfl)) (pv 6) (fun _ _ => rfl)) pa_nil))))) (pss_cons (ps_for PassesOwn.never rfl (pi_range1 (by rfl) T.f_range (pa_cons (pv 3) pa_nil)) (pg_name (i := 5) sc_l_may.nd rfl (by first | exact Or.inl rfl | exact Or.inr rfl)) (pss_one (ps_set (i := 8) sc_l_may.nd rfl (by first | exact Or.inl rfl | exact Or.inr rfl) (pe_def d_l_carried (hr.mono (by decide)) (by rfl) (pa_cons (pv 0) (pa_cons (pv 8) pa_nil)))))) (pss_one (ps_if (pt_cmpR (neD K (hu64 hr)) (pe_lc (own := [("_law_one", 10), ("_law_other", 11)]) rfl sc_l_may.nd (piL K (pv 8)) (blkOk_by (own := [("_law_one", 10), ("_law_other", 11)]) (by kernel_rfl)) (fun _ _ _ _ _ => (pgT K (n := 2) (pgs_cons (pg_name (i := 10) sc_l_may.nd rfl (by first | exact Or.inl rfl | exact Or.inr rfl)) (pgs_cons (pg_name (i := 11) sc_l_may.nd rfl (by first | exact Or.inl rfl | exact Or.inr rfl)) pgs_nil)))) (fun _ _ _ _ _ => (pts_one (pt_cmpR op_ne (pv 10) (pv 11) (nomark _)))) (fun _ _ _ _ _ => (pv 10))) (pe_lst pa_nil) (nomark _)) (pss_one (ps_ret pe_bl)) pss_nil))))))))) (pss_one (ps_ret pe_bl))))), ?_⟩
    obtain ⟨ua, ux, rfl, hu1, hu2⟩ := dp_list hu
    have hul := dpA_len hu2
    rw [List.length_map] at hul
    have hn1 := ok.m.n1
    have hn4 := ok.n
    -- the loop of turns of pairs
    refine ⟨_, rfl, ua, ux, rfl, .inl (gh.seq hu1), (ux.length : Int), rfl, RgOk.of_le (by omega) (by omega) (by omega) (by omega), fun p1 hp1 => ?_⟩
    rw [hul, rg_nat]
    have e1 := (Ext.refl (X := []) gh).new (o := .lst ((List.range rows.length).map vI)) (by exact hp1)
    have d1 : Dp K (upd G p1 (.lst ((List.range rows.length).map vI))) (.ref p1) (eL (List.range rows.length)) := .lst (.of upd_same) (dpA_ints _)
    generalize upd G p1 (.lst ((List.range rows.length).map vI)) = G1 at e1 d1
    generalize upd H p1 (.lst ((List.range rows.length).map vI)) = H1 at e1 ⊢
    refine ⟨_, rfl, (b : Int), rfl, by omega, by omega, ?_⟩
    rw [Int.toNat_natCast]
    refine for_it walk_range (fun i σ H' => ∃ (G' : Hp) (S : List Nat) (sv : V) (v5 : Option V), Ext [] G H G' H' ∧ Dp K G' sv (eL S) ∧ (∀ t, t ∈ S ↔ t ∈ behF rows i) ∧ S.length ≤ 40 ∧ σ = [some (.ref ua), some (vI b), some (vI s), some (vI e), some sv, v5, none, none, none, none, none, none])
      ⟨G1, _, .ref p1, none, e1, d1, fun t => Iff.rfl, by simp; omega, rfl⟩ (fun _ _ _ _ _ => trivial) ?_ ?_
    · rintro i x σ H2 H3 hi ⟨G2, S, sv, v5, e2, d2, hS, hSl, rfl⟩ ⟨rfl, rfl⟩
      refine ⟨_, rfl, _, rfl, G2, _, e2.gh, ⟨.ref ua, sv, k, rows, S, rfl, dp_up e2.gg hu, ok, d2, fun t ht => behF_lt i t ((hS t).mp ht), rfl⟩, fun r G3 H3 e3 ⟨S', hS', hSl', d3⟩ => ⟨G3, S', r, _, e2.trans e3, ld_dp d3, fun t => ?_, hSl', rfl⟩⟩
      rw [hS']
      show Onto rows S t ↔ t ∈ onwF rows (behF rows i)
      rw [mem_onwF ok.m]
      exact ⟨fun ⟨s, h1, h2⟩ => ⟨s, (hS s).mp h1, h2⟩, fun ⟨s, h1, h2⟩ => ⟨s, (hS s).mpr h1, h2⟩⟩
    · rintro σ H2 ⟨G2, S, sv, v5, e2, d2, hS, hSl, rfl⟩
      obtain ⟨sa, rfl, hsa⟩ := dp_rowL d2
      have hSlt : ∀ t ∈ S, t < rows.length := fun t ht => behF_lt b t ((hS t).mp ht)
      -- len(steps[0])
      have h0 : ux[0]? = some (ux[0]'(by omega)) := by simp
      obtain ⟨dd, hd, h02⟩ := dpA_at' hu2 h0
      obtain rfl : dd = eL rows[0] := by
        simp [show 0 < rows.length by omega] at hd; exact hd.symm
      obtain ⟨r0, hr0, hr02⟩ := dp_rowL h02
      have hr0l := ok.m.rl _ (List.getElem_mem (show 0 < rows.length by omega))
      refine ⟨_, rfl, ua, ux, 0, ux[0]'(by omega), rfl, rfl, (e2.gg.trans e2.gh).seq hu1, atI_nat (j := 0) h0, r0, _, by rw [hr0], .inl ((e2.gg.trans e2.gh).seq hr02), (k : Int), by rw [List.length_map, hr0l], by omega, by omega, ?_⟩
      rw [Int.toNat_natCast]
      refine for_it walk_range (fun x σ H' => ∃ (G' : Hp) (v5 v6 v7 v8 : Option V), Ext [] G H G' H' ∧ L2.Same G2 G' ∧ (∀ x' < x, ∀ c < x', ∀ q ∈ endsF k rows b s e x' c, q.1 = q.2) ∧ σ = [some (.ref ua), some (vI b), some (vI s), some (vI e), some (.ref sa), v5, v6, v7, v8, none, none, none])
        ⟨G2, v5, none, none, none, e2, L2.Same.refl _, fun x h => by omega, rfl⟩ (fun _ _ _ _ _ => trivial) ?_ ?_
      · rintro x xv σ H3 H4 hx ⟨G3, v5, v6, v7, v8, e3, g3, hall, rfl⟩ ⟨rfl, rfl⟩
        have hz : (fun i : Nat => V.int (0 + (i : Int))) x = vI x := by simp
        rw [hz]
        refine ⟨_, rfl, (x : Int), rfl, by omega, by omega, ?_⟩
        rw [Int.toNat_natCast]
        refine for_it walk_range (fun c σ H' => ∃ (G' : Hp) (v5 v7 v8 : Option V), Ext [] G H G' H' ∧ L2.Same G2 G' ∧ (∀ c' < c, ∀ q ∈ endsF k rows b s e x c', q.1 = q.2) ∧ σ = [some (.ref ua), some (vI b), some (vI s), some (vI e), some (.ref sa), v5, some (vI x), v7, v8, none, none, none])
          ⟨G3, v5, v7, v8, e3, g3, fun c h => by omega, rfl⟩ (fun _ _ _ _ _ => trivial) ?_ ?_
        · rintro c cv σ H5 H6 hc ⟨G5, v5, v7, v8, e5, g5, hall5, rfl⟩ ⟨rfl, rfl⟩
          have hz : (fun i : Nat => V.int (0 + (i : Int))) c = vI c := by simp
          rw [hz]
          have hck : c < k := by omega
          -- the pairs
          refine ⟨_, rfl, sa, rfl, ⟨_, (g5.trans e5.gh).seq hsa⟩, fun D hD => lcLD (K := K) (((S.map fun t => (at2 rows t x, at2 rows t c))).map eP) (by simp) e5.gh (g5.seq hsa) hD (fun _ => rfl) ?_ (fun j z r hj hr G6 H6 e6 Q6 q6 => ?_) fun G6 H6 e6 d6 => ?_⟩
          · simp; omega
          · have hjl : j < S.length := by have := (List.getElem?_eq_some_iff.mp hj).1; simpa using this
            obtain rfl : z = vI S[j] := by simp [hjl] at hj; exact hj.symm
            obtain rfl : r = eP (at2 rows S[j] x, at2 rows S[j] c) := by simp [hjl] at hr; exact hr.symm
            have hsl := hSlt _ (List.getElem_mem hjl)
            have hrl := ok.m.rl _ (List.getElem_mem hsl)
            have hu6 : Dp K G6 (.ref ua) (eLL rows) := dp_up (e5.gg.trans e6.gg) hu
            refine ⟨_, rfl, _, rfl, ?_⟩
            refine rd_rowL hu6 e6.gh hsl fun w1 hw1 => ⟨_, rfl, ?_⟩
            refine rd_natL hw1 e6.gh (c := x) (by omega) ⟨_, rfl, _, rfl, ?_⟩
            refine rd_rowL hu6 e6.gh hsl fun w2 hw2 => ⟨_, rfl, ?_⟩
            refine rd_natL hw2 e6.gh (c := c) (by omega) ⟨by show 2 ≤ sizeLine; decide, fun t ht => ?_⟩
            rw [← at2_eq ok.m hsl (by omega : x < rows[S[j]].length), ← at2_eq ok.m hsl (by omega : c < rows[S[j]].length)]
            exact q6 _ _ _ ((Ext.refl e6.gh).new ht) (sqT_pair (.of upd_same))
          have es : ((s : Int) - 1) = ((s - 1 : Nat) : Int) := by omega
          refine ⟨_, rfl, _, _, rfl, rfl, ((s - 1 : Nat) : Int), by show [V.int ((s : Int) - 1)] = _; rw [es], by omega, by omega, ?_⟩
          rw [Int.toNat_natCast]
          refine for_it walk_range (fun i σ H' => ∃ (G' : Hp) (l : List (Nat × Nat)) (lv : V) (v5 : Option V), Ext [] G H G' H' ∧ L2.Same G6 G' ∧ Dp K G' lv (eLP l) ∧ (∀ z, z ∈ l ↔ z ∈ seqF k rows (behF rows b) x c i) ∧ l.length ≤ 1600 ∧ σ = [some (.ref ua), some (vI b), some (vI s), some (vI e), some (.ref sa), v5, some (vI x), some (vI c), some lv, none, none, none])
            ⟨G6, _, .ref D, v5, e5.trans e6, L2.Same.refl _, ld_dp d6, fun z => ?_, by simp; omega, rfl⟩ (fun _ _ _ _ _ => trivial) ?_ ?_
          · show z ∈ _ ↔ z ∈ openF rows (behF rows b) x c
            rw [mem_openF ok.m (behF_lt b) hx hck, List.mem_map]
            exact ⟨fun ⟨t, h1, h2⟩ => ⟨t, (hS t).mp h1, h2.symm⟩, fun ⟨t, h1, h2⟩ => ⟨t, (hS t).mpr h1, h2.symm⟩⟩
          · rintro i iv σ H7 H8 hi ⟨G7, l, lv, v5, e7, g7, d7, hl, hll, rfl⟩ ⟨rfl, rfl⟩
            refine ⟨_, rfl, _, rfl, G7, _, e7.gh, ⟨.ref ua, lv, k, rows, l, rfl, dp_up e7.gg hu, ok, d7, fun q hq => seqF_lt i q ((hl q).mp hq), rfl⟩, fun r G8 H8 e8 ⟨l', hl', hll', d8⟩ => ⟨G8, l', r, _, e7.trans e8, g7.trans e8.gg, ld_dp d8, fun z => ?_, hll', rfl⟩⟩
            rw [hl']
            show _ ↔ z ∈ carrF k rows (seqF k rows (behF rows b) x c i)
            rw [mem_carrF ok.m (seqF_lt i)]
            exact ⟨fun ⟨q, h1, h2⟩ => ⟨q, (hl q).mp h1, h2⟩, fun ⟨q, h1, h2⟩ => ⟨q, (hl q).mpr h1, h2⟩⟩
          · rintro σ H7 ⟨G7, l, lv, v5, e7, g7, d7, hl, hll, rfl⟩
            obtain ⟨la, lx, rfl, hl1, hl2, hl3⟩ := lp_get d7
            have hlb : ∀ q ∈ l, q.1 < rows.length ∧ q.2 < rows.length := fun q hq => seqF_lt (s - 1) q ((hl q).mp hq)
            -- across
            refine ⟨_, rfl, la, rfl, ⟨_, e7.gh.seq hl1⟩, fun D8 hD8 => lc_it (walk_list (K := K) (a := la) (xs := lx)) (LcP K G7 H7 D8 ((crossF rows l x c).map eP)) (lcP_start e7.gh hD8) (fun i H' _ ⟨G', _, e, _⟩ => (e.gg.trans e.gh).seq hl1) ?_ ?_⟩
            · rintro i z H9 H10 hi ⟨G9, acc, e9, g9, h1, h2, h3⟩ ⟨rfl, hz⟩
              obtain ⟨hil, t, rfl, ht⟩ := hl3 i z hz
              obtain ⟨b1, b2⟩ := hlb _ (List.getElem_mem hil)
              have hr1 := ok.m.rl _ (List.getElem_mem b1)
              have hr2 := ok.m.rl _ (List.getElem_mem b2)
              have hu9 : Dp K G9 (.ref ua) (eLL rows) := dp_up (e7.gg.trans e9.gg) hu
              refine ⟨t, _, rfl, same_t (e9.gg.trans e9.gh) ht, rfl, _, _, rfl, _, _, rfl, rfl, rfl, tYes_of (iteT ⟨_, rfl, _, rfl, ?_⟩)⟩
              refine rd_rowL hu9 e9.gh b1 fun w1 hw1 => ⟨_, rfl, ?_⟩
              refine rd_natL hw1 e9.gh (c := c) (by omega) ⟨_, rfl, _, rfl, ?_⟩
              refine rd_rowL hu9 e9.gh b2 fun w2 hw2 => ⟨_, rfl, ?_⟩
              refine rd_natL hw2 e9.gh (c := x) (by omega) ⟨by show 2 ≤ sizeLine; decide, fun t ht => ?_⟩
              rw [← at2_eq ok.m b1 (by omega : c < rows[l[i].1].length), ← at2_eq ok.m b2 (by omega : x < rows[l[i].2].length)]
              exact lcP_step (y := .ref t) (r := eP (at2 rows l[i].1 c, at2 rows l[i].2 x)) e9 hD8 g9 h1 h2 h3 ((Ext.refl e9.gh).new ht) (by simp [crossF, hil]) (sqT_pair (.of upd_same)) (by omega)
            · intro H9 p9
              obtain ⟨G9, e9, d9⟩ := lcP_done p9 (by simp [crossF, hl2]) hD8
              refine ⟨_, rfl, (e : Int), rfl, by omega, by omega, ?_⟩
              rw [Int.toNat_natCast]
              refine for_it walk_range (fun i σ H' => ∃ (G' : Hp) (l2 : List (Nat × Nat)) (lv : V) (v5 : Option V), Ext [] G H G' H' ∧ L2.Same G7 G' ∧ Dp K G' lv (eLP l2) ∧ (∀ z, z ∈ l2 ↔ z ∈ iterC k rows (crossF rows (seqF k rows (behF rows b) x c (s - 1)) x c) i) ∧ l2.length ≤ 1600 ∧ σ = [some (.ref ua), some (vI b), some (vI s), some (vI e), some (.ref sa), v5, some (vI x), some (vI c), some lv, none, none, none])
                ⟨G9, _, .ref D8, v5, e7.trans e9, e9.gg, ld_dp d9, fun z => ?_, by simp [crossF]; omega, rfl⟩ (fun _ _ _ _ _ => trivial) ?_ ?_
              · show z ∈ crossF rows l x c ↔ z ∈ crossF rows (seqF k rows (behF rows b) x c (s - 1)) x c
                unfold crossF
                rw [List.mem_map, List.mem_map]
                exact ⟨fun ⟨q, h1, h2⟩ => ⟨q, (hl q).mp h1, h2⟩, fun ⟨q, h1, h2⟩ => ⟨q, (hl q).mpr h1, h2⟩⟩
              · rintro i iv σ H10 H11 hi ⟨G10, l2, lv, v5, e10, g10, d10, hl2m, hl2l, rfl⟩ ⟨rfl, rfl⟩
                have hib := iterC_lt (k := k) _ (crossF_lt ok.m (seqF_lt (k := k) (rows := rows) (S := behF rows b) (a := x) (c := c) (s - 1)) hx hck) i
                refine ⟨_, rfl, _, rfl, G10, _, e10.gh, ⟨.ref ua, lv, k, rows, l2, rfl, dp_up e10.gg hu, ok, d10, fun q hq => hib q ((hl2m q).mp hq), rfl⟩, fun r G8 H8 e8 ⟨l', hl', hll', d8⟩ => ⟨G8, l', r, _, e10.trans e8, g10.trans e8.gg, ld_dp d8, fun z => ?_, hll', rfl⟩⟩
                rw [hl']
                show _ ↔ z ∈ carrF k rows (iterC k rows (crossF rows (seqF k rows (behF rows b) x c (s - 1)) x c) i)
                rw [mem_carrF ok.m hib]
                exact ⟨fun ⟨q, h1, h2⟩ => ⟨q, (hl2m q).mp h1, h2⟩, fun ⟨q, h1, h2⟩ => ⟨q, (hl2m q).mpr h1, h2⟩⟩
              · rintro σ H10 ⟨G10, l2, lv, v5, e10, g10, d10, hl2m, hl2l, rfl⟩
                obtain ⟨ma, mx, rfl, hm1, hm2, hm3⟩ := lp_get d10
                refine ⟨_, rfl, ma, rfl, ⟨_, e10.gh.seq hm1⟩, fun D11 hD11 => lc_it (walk_list (K := K) (a := ma) (xs := mx)) (fun i H' => ∃ nz : List Nat, Ext [] G10 H10 G10 H' ∧ H' D11 = some (.lst (nz.map vI)) ∧ nz.length ≤ i ∧ (nz = [] ↔ ∀ q ∈ l2.take i, q.1 = q.2))
                  ⟨[], (Ext.refl e10.gh).newM hD11, upd_same, Nat.le_refl _, by simp⟩ (fun i H' _ ⟨_, e, _⟩ => e.gh.seq hm1) ?_ ?_⟩
                · rintro i z H11 H12 hi ⟨nz, e11, h1, h2, h3⟩ ⟨rfl, hz⟩
                  obtain ⟨hil, t, rfl, ht⟩ := hm3 i z hz
                  refine ⟨t, _, rfl, same_t e11.gh ht, rfl, _, _, rfl, _, _, rfl, rfl, rfl, _, rfl, _, rfl, rfl, _, rfl, ?_⟩
                  rw [List.take_succ_eq_append_getElem hil]
                  by_cases hq : l2[i].1 = l2[i].2
                  · refine iteFb (by rw [dec_eq (by omega)]; rfl) ⟨nz, e11, h1, by omega, ?_⟩
                    rw [h3]
                    constructor
                    · intro h q hq'
                      rcases List.mem_append.mp hq' with hq' | hq'
                      · exact h q hq'
                      · rw [List.mem_singleton.mp hq']; exact hq
                    · exact fun h q hq' => h q (List.mem_append_left _ hq')
                  · refine iteTb (by rw [dec_ne (by omega)]; rfl) ⟨_, rfl, nz.map vI, h1, by rw [List.length_map]; exact Nat.lt_of_le_of_lt (show nz.length ≤ 2000 by omega) (by decide), nz ++ [l2[i].1], e11.mut (.inl hD11) (e10.gh.free hD11), by rw [upd_same]; simp, by simp; omega, ?_⟩
                    constructor
                    · intro h; simp at h
                    · intro h
                      exact absurd (h l2[i] (List.mem_append_right _ (List.mem_singleton.mpr rfl))) hq
                · rintro H11 ⟨nz, e11, h1, h2, h3⟩
                  rw [hm2, List.take_length] at h3
                  refine ⟨by show 0 ≤ sizeLine; decide, fun p hp => ?_⟩
                  have k1 : upd H11 p (.lst []) D11 = some (.lst (nz.map vI)) := by rw [upd_ne (ne_of_none h1 hp)]; exact h1
                  have e12 := (e10.trans e11).newM (o := .lst []) hp
                  refine ⟨eL nz, .list [], .lst (.of k1) (dpA_ints nz), .lst (.of upd_same) .nil, sh_nats nz, rfl, _, rfl, ?_⟩
                  rw [eqv_nils]
                  have hends : (∀ q ∈ endsF k rows b s e x c, q.1 = q.2) ↔ nz = [] := by
                    rw [h3]
                    exact ⟨fun h q hq => h q ((hl2m q).mp hq), fun h q hq => h q ((hl2m q).mpr hq)⟩
                  by_cases hnz : nz = []
                  · refine iteFb (by simp [hnz]) ⟨G10, _, _, _, e12, g5.trans (e6.gg.trans (g7.trans g10)), fun c' hc' => ?_, rfl⟩
                    by_cases z : c' = c
                    · rw [z]; exact hends.mpr hnz
                    · exact hall5 c' (by omega)
                  · refine iteTb (by simp [hnz]) (q _ _ _ e12 ?_)
                    have : mayB k rows b s e = false := by
                      cases z : mayB k rows b s e with
                      | false => rfl
                      | true =>
                        have := List.all_eq_true.mp (List.all_eq_true.mp z x (List.mem_range.mpr hx)) c (List.mem_range.mpr hc)
                        exact absurd (hends.mp fun q hq => of_decide_eq_true (List.all_eq_true.mp this q hq)) hnz
                    rw [this]
        · rintro σ H5 ⟨G5, v5, v7, v8, e5, g5, hall5, rfl⟩
          refine ⟨G5, _, _, _, _, e5, g5, fun x' hx' => ?_, rfl⟩
          by_cases z : x' = x
          · rw [z]; exact hall5
          · exact hall x' (by omega)
      · rintro σ H3 ⟨G3, v5, v6, v7, v8, e3, g3, hall, rfl⟩
        refine q _ _ _ e3 ?_
        have : mayB k rows b s e = true := List.all_eq_true.mpr fun x hx => List.all_eq_true.mpr fun c hc => List.all_eq_true.mpr fun q hq => decide_eq_true (hall x (List.mem_range.mp hx) c (List.mem_range.mp hc) q hq)
        rw [this]
end
end K78

/-! text L10 -/
set_option Elab.async false
set_option linter.all false
set_option maxRecDepth 100000
set_option maxHeartbeats 4000000
namespace K78
open PySem PySem.Spec PyProof.Rows L2
/-! ### words -/
def runW (rows : List (List Nat)) (s : Nat) (w : List Nat) : Nat := w.foldl (at2 rows) s
theorem runW_lt {k : Nat} {rows : List (List Nat)} (ok : OkM k rows) : ∀ {w : List Nat} {s : Nat}, s < rows.length → (∀ c ∈ w, c < k) → runW rows s w < rows.length
  | [], _, h, _ => h
  | c :: w, s, h, hw => runW_lt ok (w := w) (at2_lt ok h (hw c (by simp))) fun d hd => hw d (by simp [hd])
theorem runW_snoc (rows : List (List Nat)) (s : Nat) (w : List Nat) (c : Nat) : runW rows s (w ++ [c]) = at2 rows (runW rows s w) c := by
  unfold runW
  rw [List.foldl_append]
  rfl
theorem runW_app (rows : List (List Nat)) (s : Nat) (u v : List Nat) : runW rows s (u ++ v) = runW rows (runW rows s u) v := by
  unfold runW
  rw [List.foldl_append]
def effW (rows : List (List Nat)) (w : List Nat) : List Nat := (List.range rows.length).map fun s => runW rows s w
section
variable {P : Program} {w : World} {K : PySem.W.Frag} {mg : Str → Option Value} {base : Heap} {C : Addr} {G H : Hp}
theorem at2T {st : V} {rows : List (List Nat)} {k s c : Nat} (ok : OkM k rows) (h : Dp K G st (eRR rows)) (gh : L2.Same G H) (hs : s < rows.length) (hc : c < k) {Q : VK} (q : Q (vI (at2 rows s c)) H) : rIxT K st (vI s) H fun y H2 => rIxT K y (vI c) H2 Q := by
  have hr := ok.rl _ (List.getElem_mem hs)
  refine rd_row h gh hs fun u hu => ?_
  refine rd_nat hu gh (c := c) (by omega) ?_
  rw [← at2_eq ok hs (by omega : c < rows[s].length)]
  exact q
theorem ixA_mono {x y : V} {Q Q' : VK} (h : ∀ v H, Q v H → Q' v H) : True := trivial
def spLEnd (K : PySem.W.Frag) : Sp := pureSp fun G vs Post => ∃ (u a : V) (k : Nat) (rows : List (List Nat)) (s : Nat) (l : List Nat), vs = [u, vI s, a] ∧ (Dp K G u (eRR rows) ∨ Dp K G u (eLL rows)) ∧ OkM k rows ∧ s < rows.length ∧ Dp K G a (eL l) ∧ (∀ c ∈ l, c < k) ∧ Post = fun G' v => v = vI (runW rows s l)
theorem sc_l_end : FnScope ["_law_steps_here", "_law_state", "_law_row", "_law_command"] ["_law_steps_here", "_law_state", "_law_row"] (defScope s_l_end) := ⟨rfl, rfl, rfl, by decide +kernel, rfl, by decide +kernel, by decide +kernel⟩
theorem ok_l_end (T : Txt K mg C) (F : HasD K mg "_law_end" s_l_end) : Def P w K mg base "_law_end" 1 ["_law_steps_here", "_law_state", "_law_row"] (spLEnd K) := by
  refine mkDef F sc_l_end (fun _ _ _ _ _ _ us hl => match us, hl with | [_, _, _], _ => rfl) (fun vs H Q E h => ?_) fun f cdv A outer s H vs Q E hr h => ?_
  · obtain ⟨G, Post, _, ⟨u, a, k, rows, s, l, rfl, _⟩, _⟩ := h
    rfl
  · obtain ⟨G, Post, gh, ⟨u, a, k, rows, s, l, rfl, hu, ok, hs, ha, hl, rfl⟩, q⟩ := h
    refine ⟨_, (pss_cons (ps_for PassesOwn.never rfl (piL K (pv 2)) (pg_name (i := 3) sc_l_end.nd rfl (by first | exact Or.inl rfl | exact Or.inr rfl)) (pss_one (ps_set (i := 1) sc_l_end.nd rfl (by first | exact Or.inl rfl | exact Or.inr rfl) (pe_ix (ixA K) (pe_ix (ixA K) (pv 0) (pv 1) (fun _ _ => rfl)) (pv 3) (fun _ _ => rfl))))) (pss_one (ps_ret (pv 1)))), ?_⟩
    obtain ⟨la, lx, rfl, hl1, hl2⟩ := dp_list ha
    have hll := dpA_len hl2
    rw [List.length_map] at hll
    refine ⟨_, rfl, la, rfl, ⟨_, gh.seq hl1⟩, for_it (walk_list (K := K) (a := la) (xs := lx)) (fun i σ H' => ∃ v3, Ext [] G H G H' ∧ σ = [some u, some (vI (runW rows s (l.take i))), some (.ref la), v3])
      ⟨none, Ext.refl gh, rfl⟩ (fun i σ H' _ ⟨_, e, _⟩ => e.gh.seq hl1) ?_ ?_⟩
    · rintro i x σ H1 H2 hi ⟨v3, e, rfl⟩ ⟨rfl, hx⟩
      have hil : i < l.length := by rw [← hll]; exact hi
      obtain ⟨d, hd, hx2⟩ := dpA_at' hl2 hx
      obtain rfl : d = eI l[i] := by simp [hil] at hd; exact hd.symm
      obtain rfl := dp_int hx2
      have hc := hl _ (List.getElem_mem hil)
      have hr := runW_lt ok hs (w := l.take i) fun c hc => hl c (List.mem_of_mem_take hc)
      refine ⟨_, rfl, _, rfl, ?_⟩
      have fin : ∀ (y : V), ∃ v3 : Option V, Ext [] G H G H2 ∧ [some u, some (vI (at2 rows (runW rows s (l.take i)) l[i])), some (V.ref la), some (vI l[i])] = [some u, some (vI (runW rows s (l.take (i + 1)))), some (.ref la), v3] := fun y => ⟨_, e, by rw [List.take_succ_eq_append_getElem hil, runW_snoc]⟩
      rcases hu with hu | hu
      · exact .inl (rd_row hu e.gh hr fun u1 h1 => ⟨_, rfl, .inl (rd_nat h1 e.gh (c := l[i]) (by rw [ok.rl _ (List.getElem_mem hr)]; exact hc) (by rw [← at2_eq ok hr (by rw [ok.rl _ (List.getElem_mem hr)]; exact hc)]; exact fin u))⟩)
      · exact .inr (rd_rowL hu e.gh hr fun u1 h1 => ⟨_, rfl, .inr (rd_natL h1 e.gh (c := l[i]) (by rw [ok.rl _ (List.getElem_mem hr)]; exact hc) (by rw [← at2_eq ok hr (by rw [ok.rl _ (List.getElem_mem hr)]; exact hc)]; exact fin u))⟩)
    · rintro σ H1 ⟨v3, e, rfl⟩
      rw [hll, List.take_length]
      exact ⟨_, rfl, q _ _ _ e rfl⟩
def spLEffect (K : PySem.W.Frag) : Sp := pureSp fun G vs Post => ∃ (u a : V) (k : Nat) (rows : List (List Nat)) (l : List Nat), vs = [u, a] ∧ Dp K G u (eLL rows) ∧ OkM k rows ∧ Dp K G a (eL l) ∧ (∀ c ∈ l, c < k) ∧ Post = fun G' v => Dp K G' v (eR (effW rows l))
theorem sc_l_effect : FnScope ["_law_steps_here", "_law_row", "_law_state"] ["_law_steps_here", "_law_row"] (defScope s_l_effect) := ⟨rfl, rfl, rfl, by decide +kernel, rfl, by decide +kernel, by decide +kernel⟩
theorem ok_l_effect (T : Txt K mg C) (F : HasD K mg "_law_effect" s_l_effect) (d_l_end : Def P w K mg base "_law_end" 1 ["_law_steps_here", "_law_state", "_law_row"] (spLEnd K)) : Def P w K mg base "_law_effect" 2 ["_law_steps_here", "_law_row"] (spLEffect K) := by
  refine mkDef F sc_l_effect (fun _ _ _ _ _ _ us hl => match us, hl with | [_, _], _ => rfl) (fun vs H Q E h => ?_) fun f cdv A outer s H vs Q E hr h => ?_
  · obtain ⟨G, Post, _, ⟨u, a, k, rows, l, rfl, _⟩, _⟩ := h
    rfl
  · obtain ⟨G, Post, gh, ⟨u, a, k, rows, l, rfl, hu, ok, ha, hl, rfl⟩, q⟩ := h
    refine ⟨_, (pss_one (ps_ret (pe_callTy (tupOf K) (by rfl) T.f_tuple (by decide +kernel) (pa_cons (pe_lc (own := [("_law_state", 2)]) rfl sc_l_effect.nd (pi_range1 (by rfl) T.f_range (pa_cons (pe_callB (lenS K) (by rfl) T.f_len (by decide +kernel) (pa_cons (pv 0) pa_nil)) pa_nil)) (blkOk_by (own := [("_law_state", 2)]) (by kernel_rfl)) (fun _ _ _ _ _ => (pg_name (i := 2) sc_l_effect.nd rfl (by first | exact Or.inl rfl | exact Or.inr rfl))) (fun _ _ _ _ _ => pts_nil) (fun _ _ _ _ _ => (pe_def d_l_end (hr.mono (by decide)) (by rfl) (pa_cons (pv 0) (pa_cons (pv 2) (pa_cons (pv 1) pa_nil)))))) pa_nil)))), ?_⟩
    have hn := ok.n9
    obtain ⟨ua, ux, rfl, hu1, hu2⟩ := dp_list hu
    have hul := dpA_len hu2
    rw [List.length_map] at hul
    refine ⟨_, rfl, ua, ux, rfl, .inl (gh.seq hu1), (rows.length : Int), by rw [hul], by omega, by omega, fun D hD => ?_⟩
    rw [Int.toNat_natCast]
    refine lcRD (K := K) ((effW rows l).map eI) (by simp [effW]) gh hD (fun _ => rfl) (by omega) (fun i r hi hr G1 H1 e1 Q1 q1 => ?_) fun G1 H1 e1 d1 => rd_tupOf d1 e1.gh fun p G2 H2 e2 d2 => q _ _ _ (e1.trans e2) d2
    obtain rfl : r = eI (runW rows i l) := by simp [effW, hi] at hr; exact hr.symm
    refine ⟨_, rfl, _, rfl, _, rfl, G1, _, e1.gh, ⟨.ref ua, a, k, rows, i, l, by simp, .inr (dp_up e1.gg hu), ok, hi, dp_up e1.gg ha, hl, rfl⟩, fun v G2 H2 e2 hv => ?_⟩
    subst hv
    exact q1 _ _ _ e2 (.int _)
end
end K78

/-! text L11 -/
set_option Elab.async false
set_option linter.all false
set_option maxRecDepth 100000
set_option maxHeartbeats 4000000
namespace K78
open PySem PySem.Spec PyProof.Rows L2
/-! ### effects by words -/
def LetW (k : Nat) (w : List Nat) : Prop := ∀ c ∈ w, c < k
theorem LetW.nil {k : Nat} : LetW k [] := fun c h => by cases h
theorem LetW.cons {k c : Nat} {w : List Nat} (hc : c < k) (h : LetW k w) : LetW k (c :: w) := fun d hd => (List.mem_cons.mp hd).elim (fun z => by rw [z]; exact hc) (h d)
theorem LetW.app {k : Nat} {u v : List Nat} (hu : LetW k u) (hv : LetW k v) : LetW k (u ++ v) := fun d hd => (List.mem_append.mp hd).elim (hu d) (hv d)
section
variable {k : Nat} {rows : List (List Nat)}
theorem effW_len (w : List Nat) : (effW rows w).length = rows.length := by simp [effW]
theorem effW_at (w : List Nat) {s : Nat} (hs : s < rows.length) : (effW rows w).getD s 0 = runW rows s w := by simp [effW, List.getD, hs]
theorem effW_nil : effW rows [] = List.range rows.length := by
  unfold effW
  show (List.range rows.length).map (fun s => s) = _
  simp
theorem effW_cons (ok : OkM k rows) {c : Nat} (hc : c < k) (w : List Nat) : followedF (singleF rows c) (effW rows w) = effW rows (c :: w) := by
  refine List.ext_getElem (by simp [followedF, singleF, effW]) fun i h1 h2 => ?_
  have hi : i < rows.length := by simpa [effW] using h2
  have ha := at2_lt ok hi hc
  simp only [followedF, singleF, List.getElem_map]
  have : rows[i].getD c 0 = at2 rows i c := by simp [at2, List.getD, hi]
  rw [this, effW_at w ha]
  simp [effW]
  rfl
def stepF (rows : List (List Nat)) (e : List Nat) (c : Nat) : List Nat := e.map fun s => at2 rows s c
theorem effW_snoc (w : List Nat) (c : Nat) : effW rows (w ++ [c]) = stepF rows (effW rows w) c := by
  unfold effW stepF
  rw [List.map_map]
  exact List.map_congr_left fun s _ => runW_snoc rows s w c
theorem isEff_iff (ok : OkM k rows) {e : List Nat} : IsEff k rows e ↔ ∃ w, LetW k w ∧ e = effW rows w := by
  constructor
  · intro h
    induction h with
    | start => exact ⟨[], .nil, effW_nil.symm⟩
    | step _ hc ih =>
      obtain ⟨w, hw, rfl⟩ := ih
      exact ⟨_, .cons hc hw, effW_cons ok hc w⟩
  · rintro ⟨w, hw, rfl⟩
    induction w with
    | nil => rw [effW_nil]; exact .start
    | cons c w ih =>
      rw [← effW_cons ok (hw c (by simp))]
      exact .step (ih fun d hd => hw d (by simp [hd])) (hw c (by simp))
def EffLe (k : Nat) (rows : List (List Nat)) (t : Nat) (e : List Nat) : Prop := ∃ w, LetW k w ∧ w.length ≤ t ∧ e = effW rows w
theorem EffLe.up {t : Nat} {e : List Nat} (h : EffLe k rows t e) : EffLe k rows (t + 1) e := by
  obtain ⟨w, h1, h2, h3⟩ := h
  exact ⟨w, h1, by omega, h3⟩
theorem EffLe.step {t c : Nat} {e : List Nat} (h : EffLe k rows t e) (hc : c < k) : EffLe k rows (t + 1) (stepF rows e c) := by
  obtain ⟨w, h1, h2, rfl⟩ := h
  exact ⟨w ++ [c], h1.app (.cons hc .nil), by simp; omega, (effW_snoc w c).symm⟩
theorem EffLe.inv {t : Nat} {e : List Nat} (h : EffLe k rows (t + 1) e) : EffLe k rows t e ∨ ∃ e' c, EffLe k rows t e' ∧ c < k ∧ e = stepF rows e' c := by
  obtain ⟨w, h1, h2, rfl⟩ := h
  rcases List.eq_nil_or_concat w with rfl | ⟨u, c, rfl⟩
  · exact .inl ⟨[], .nil, by simp, rfl⟩
  · rw [List.concat_eq_append] at *
    exact .inr ⟨effW rows u, c, ⟨u, fun d hd => h1 d (by simp [hd]), by simp at h2; omega, rfl⟩, h1 c (by simp), effW_snoc u c⟩
/-- the loop of _law_effects: F all of at most t letters, L the new ones so far -/
structure BInv (k : Nat) (rows F : List (List Nat)) (t : Nat) (L : List (List Nat)) (i c : Nat) : Prop where
  nd : (F ++ L).Nodup
  f : ∀ e, e ∈ F ↔ EffLe k rows t e
  l : ∀ e ∈ L, EffLe k rows (t + 1) e
  done : ∀ j (hj : j < F.length) d, d < k → (j < i ∨ (j = i ∧ d < c)) → stepF rows F[j] d ∈ F ++ L
theorem BInv.few (ok : OkM k rows) (hn : rows.length ≤ 5) {F L : List (List Nat)} {t i c : Nat} (v : BInv k rows F t L i c) : F.length + L.length ≤ 3125 := by
  have := rows_few (n := rows.length) v.nd (fun r hr => ?_) hn
  · simpa using this
  · have : ∃ w, LetW k w ∧ r = effW rows w := by
      rcases List.mem_append.mp hr with h | h
      · obtain ⟨w, h1, _, h2⟩ := (v.f r).mp h; exact ⟨w, h1, h2⟩
      · obtain ⟨w, h1, _, h2⟩ := v.l r h; exact ⟨w, h1, h2⟩
    exact isEff_ok ok ((isEff_iff ok).mpr this)
theorem BInv.next {F L : List (List Nat)} {t i : Nat} (v : BInv k rows F t L i k) : BInv k rows F t L (i + 1) 0 :=
  ⟨v.nd, v.f, v.l, fun j hj d hd h => v.done j hj d hd (by omega)⟩
theorem BInv.full {F L : List (List Nat)} {t c : Nat} (v : BInv k rows F t L F.length c) : ∀ e, e ∈ F ++ L ↔ EffLe k rows (t + 1) e := fun e => by
  constructor
  · intro h
    rcases List.mem_append.mp h with h | h
    · exact ((v.f e).mp h).up
    · exact v.l e h
  · intro h
    rcases h.inv with h2 | ⟨e', d, h2, hd, rfl⟩
    · exact List.mem_append_left _ ((v.f e).mpr h2)
    · obtain ⟨j, hj, rfl⟩ := List.mem_iff_getElem.mp ((v.f e').mpr h2)
      exact v.done j hj d hd (.inl hj)
theorem BInv.turn {F L : List (List Nat)} {t c : Nat} (v : BInv k rows F t L F.length c) : BInv k rows (F ++ L) (t + 1) [] 0 0 :=
  ⟨by rw [List.append_nil]; exact v.nd, v.full, fun e h => (by cases h), fun j hj d hd h => by omega⟩
theorem BInv.init : BInv k rows [effW rows []] 0 [] 0 0 :=
  ⟨by simp, fun e => ⟨fun h => by rw [List.mem_singleton.mp h]; exact ⟨[], .nil, by simp, rfl⟩, fun ⟨w, _, h2, h3⟩ => by
    rw [List.eq_nil_of_length_eq_zero (by omega : w.length = 0)] at h3
    rw [h3]; simp⟩, fun e h => (by cases h), fun j hj d hd h => by omega⟩
/-- no new one: all are found -/
theorem BInv.all (ok : OkM k rows) {F : List (List Nat)} {t c : Nat} (v : BInv k rows F t [] F.length c) : ∀ e, e ∈ F ↔ IsEff k rows e := by
  have cl : ∀ w, LetW k w → effW rows w ∈ F := by
    have : ∀ (n : Nat) (w : List Nat), w.length = n → LetW k w → effW rows w ∈ F := by
      intro n
      induction n with
      | zero => exact fun w h1 h2 => (v.f _).mpr ⟨w, h2, by omega, rfl⟩
      | succ n ih =>
        intro w h1 h2
        rcases List.eq_nil_or_concat w with rfl | ⟨u, d, rfl⟩
        · cases h1
        · rw [List.concat_eq_append] at *
          have hu := ih u (by simp at h1; omega) fun x hx => h2 x (by simp [hx])
          obtain ⟨j, hj, hju⟩ := List.mem_iff_getElem.mp hu
          have := v.done j hj d (h2 d (by simp)) (.inl hj)
          rw [List.append_nil, hju, ← effW_snoc] at this
          exact this
    exact fun w h => this _ w rfl h
  intro e
  rw [isEff_iff ok]
  exact ⟨fun h => (by obtain ⟨w, h1, _, h2⟩ := (v.f e).mp h; exact ⟨w, h1, h2⟩), fun ⟨w, h1, h2⟩ => by rw [h2]; exact cl w h1⟩
def Reach40 (k : Nat) (rows : List (List Nat)) : Prop := ∀ w, LetW k w → EffLe k rows 40 (effW rows w)
theorem BInv.all40 (ok : OkM k rows) (h40 : Reach40 k rows) {F L : List (List Nat)} {i c : Nat} (v : BInv k rows F 40 L i c) : ∀ e, e ∈ F ↔ IsEff k rows e := by
  intro e
  rw [isEff_iff ok, v.f]
  exact ⟨fun ⟨w, h1, _, h2⟩ => ⟨w, h1, h2⟩, fun ⟨w, h1, h2⟩ => by rw [h2]; exact h40 w h1⟩
theorem BInv.old {F L : List (List Nat)} {t i c : Nat} (v : BInv k rows F t L i c) (hi : i < F.length) (h : stepF rows F[i] c ∈ F ++ L) : BInv k rows F t L i (c + 1) :=
  ⟨v.nd, v.f, v.l, fun j hj d hd z => by
    by_cases q : j = i ∧ d = c
    · obtain ⟨rfl, rfl⟩ := q; exact h
    · exact v.done j hj d hd (by omega)⟩
theorem BInv.new {F L : List (List Nat)} {t i c : Nat} (v : BInv k rows F t L i c) (hi : i < F.length) (hc : c < k) (h : stepF rows F[i] c ∉ F ++ L) : BInv k rows F t (L ++ [stepF rows F[i] c]) i (c + 1) :=
  ⟨by
    rw [← List.append_assoc]
    refine List.nodup_append.mpr ⟨v.nd, by simp, fun a ha b hb => ?_⟩
    rw [List.mem_singleton.mp hb]
    rintro rfl
    exact h ha, v.f, fun e he => by
      rcases List.mem_append.mp he with he | he
      · exact v.l e he
      · rw [List.mem_singleton.mp he]
        exact ((v.f _).mp (List.getElem_mem hi)).step hc, fun j hj d hd z => by
    rw [← List.append_assoc]
    by_cases q : j = i ∧ d = c
    · obtain ⟨rfl, rfl⟩ := q; simp
    · exact List.mem_append_left _ (v.done j hj d hd (by omega))⟩
end
end K78

/-! text L12 -/
set_option Elab.async false
set_option linter.all false
set_option maxRecDepth 100000
set_option maxHeartbeats 4000000
namespace K78
open PySem PySem.Spec PyProof.Rows L2
section
variable {P : Program} {w : World} {K : PySem.W.Frag} {mg : Str → Option Value} {base : Heap} {C : Addr} {G H : Hp}
theorem eqv_rows_nil (l : List (List Nat)) : PyData.eqv (eLR l) (.list []) = decide (l = []) := by
  cases l with
  | nil => rfl
  | cons a l => simp [eLR, PyData.eqv, PyData.eqvAll]
theorem ld_push {D : Addr} {xs : List V} {ds : List PyData} {G' : Hp} : True := trivial
def spLEffects (K : PySem.W.Frag) : Sp := pureSp fun G vs Post => ∃ (u : V) (k : Nat) (rows : List (List Nat)), vs = [u] ∧ Dp K G u (eLL rows) ∧ OkM k rows ∧ rows.length ≤ 5 ∧ Reach40 k rows ∧ Post = fun G' v => ∃ E, AllEff k rows E ∧ Ld K G' v (E.map eR)
theorem sc_l_effects : FnScope ["_law_steps_here", "_law_found", "_law_turn", "_law_longer", "_law_one", "_law_command", "_law_more", "_law_state"] ["_law_steps_here"] (defScope s_l_effects) := ⟨rfl, rfl, rfl, by decide +kernel, rfl, by decide +kernel, by decide +kernel⟩
theorem ok_l_effects (T : Txt K mg C) (F : HasD K mg "_law_effects" s_l_effects) : Def P w K mg base "_law_effects" 1 ["_law_steps_here"] (spLEffects K) := by
  refine mkDef F sc_l_effects (fun _ _ _ _ _ _ us hl => match us, hl with | [_], _ => rfl) (fun vs H Q E h => ?_) fun f cdv A outer s H vs Q E hr h => ?_
  · obtain ⟨G, Post, _, ⟨u, k, rows, rfl, _⟩, _⟩ := h
    rfl
  · obtain ⟨G, Post, gh, ⟨u, k, rows, rfl, hu, ok, hn, h40, rfl⟩, q⟩ := h
    refine ⟨_, (pss_cons (ps_set (i := 1) sc_l_effects.nd rfl (by first | exact Or.inl rfl | exact Or.inr rfl) (pe_lst (pa_cons (pe_tupRg rfl (by rfl) T.f_tuple (prg_1 (by rfl) T.f_range (pe_callB (lenS K) (by rfl) T.f_len (by decide +kernel) (pa_cons (pv 0) pa_nil)))) pa_nil))) (pss_cons (ps_for PassesOwn.never rfl (pi_range1 (by rfl) T.f_range (pa_cons pe_int pa_nil)) (pg_name (i := 2) sc_l_effects.nd rfl (by first | exact Or.inl rfl | exact Or.inr rfl)) (pss_cons (ps_set (i := 3) sc_l_effects.nd rfl (by first | exact Or.inl rfl | exact Or.inr rfl) (pe_lst pa_nil)) (pss_cons (ps_for PassesOwn.never rfl (piL K (pv 1)) (pg_name (i := 4) sc_l_effects.nd rfl (by first | exact Or.inl rfl | exact Or.inr rfl)) (pss_one (ps_for PassesOwn.never rfl (pi_range1 (by rfl) T.f_range (pa_cons (pe_callB (lenS K) (by rfl) T.f_len (by decide +kernel) (pa_cons (pe_ix (ixL K) (pv 0) pe_int (fun _ _ => rfl)) pa_nil)) pa_nil)) (pg_name (i := 5) sc_l_effects.nd rfl (by first | exact Or.inl rfl | exact Or.inr rfl)) (pss_cons (ps_set (i := 6) sc_l_effects.nd rfl (by first | exact Or.inl rfl | exact Or.inr rfl) (pe_callTy (tupOf K) (by rfl) T.f_tuple (by decide +kernel) (pa_cons (pe_lc (own := [("_law_state", 7)]) rfl sc_l_effects.nd (piT K (pv 4)) (blkOk_by (own := [("_law_state", 7)]) (by kernel_rfl)) (fun _ _ _ _ _ => (pg_name (i := 7) sc_l_effects.nd rfl (by first | exact Or.inl rfl | exact Or.inr rfl))) (fun _ _ _ _ _ => pts_nil) (fun _ _ _ _ _ => (pe_ix (ixL K) (pe_ix (ixL K) (pv 0) (pv 7) (fun _ _ => rfl)) (pv 5) (fun _ _ => rfl)))) pa_nil))) (pss_one (ps_if (PW.pt (pw_and (pt_cmpR (niD K (hu65 hr)) (pv 6) (pv 1) (by rfl)) (pw_and1 (pt_cmpR (niD K (hu65 hr)) (pv 6) (pv 3) (by rfl))))) (pss_one (ps_expr (pe_bm PySem.F.plainAttrs_list PySem.F.slot_list_append PySem.F.type_list_append mt_append (pv 3) (pa_cons (pv 6) pa_nil)))) pss_nil)))))) (pss_cons (ps_if (pt_cmpR (eqD K (hu64 hr)) (pv 3) (pe_lst pa_nil) (nomark _)) (pss_one (ps_ret (pe_callB (sortB K (hu64 hr)) (by rfl) T.f_sorted (by decide +kernel) (pa_cons (pv 1) pa_nil)))) pss_nil) (pss_one (ps_set (i := 1) sc_l_effects.nd rfl (by first | exact Or.inl rfl | exact Or.inr rfl) (pe_op op_cat (pv 1) (pv 3)))))))) (pss_one (ps_ret (pe_callB (sortB K (hu64 hr)) (by rfl) T.f_sorted (by decide +kernel) (pa_cons (pv 1) pa_nil)))))), ?_⟩
    obtain ⟨ua, ux, rfl, hu1, hu2⟩ := dp_list hu
    have hul := dpA_len hu2
    rw [List.length_map] at hul
    have hn1 := ok.n1
    have hk9 := ok.k9
    -- sorted(found)
    have srt_ok : ∀ {F : List (List Nat)} {G' H' : Hp} {fv : V}, F.Nodup → (∀ e, e ∈ F ↔ IsEff k rows e) → Ext [] G H G' H' → Dp K G' fv (eLR F) → rSortB K [fv] H' Q := by
      intro F G' H' fv nd hF e d
      refine ⟨_, eR, F, fv, G', rfl, e.gh, d, ok_srtR (fun r hr z => ?_) (Nat.le_trans (rows_few nd (fun r hr => isEff_ok ok ((hF r).mp hr)) hn) (by decide)), fun t2 ys ht2 hys => ?_⟩
      · have := (isEff_ok ok ((hF r).mp hr)).1
        rw [z] at this
        simp at this
        omega
      · have e5 := e.new (o := .lst ys) ht2
        exact q _ _ _ e5 ⟨_, ⟨F, nd, hF, rfl⟩, t2, ys, rfl, upd_same, dpA_up (fun b o hb => by rw [upd_ne (ne_of_none hb (e.gh.free ht2))]; exact hb) hys⟩
    refine ⟨_, rfl, ua, ux, rfl, .inl (gh.seq hu1), (rows.length : Int), by rw [hul], RgOk.of_le (by omega) (by omega) (by omega) (by omega), fun q1 hq1 => ?_⟩
    rw [rg_nat]
    have e1 := (Ext.refl (X := []) gh).new (o := .tup ((List.range rows.length).map vI)) hq1
    have d1 : Dp K _ (.ref q1) (eR (List.range rows.length)) := tup_new gh hq1 (dpA_ints (List.range rows.length))
    generalize upd G q1 (.tup ((List.range rows.length).map vI)) = G1 at e1 d1
    generalize upd H q1 (.tup ((List.range rows.length).map vI)) = H1 at e1 ⊢
    refine ⟨by show 1 ≤ sizeLine; decide, fun p2 hp2 => ?_⟩
    have e2 := e1.new (o := .lst [.ref q1]) hp2
    have d2 : Ld K (upd G1 p2 (.lst [.ref q1])) (.ref p2) ([effW rows []].map eR) := ⟨p2, _, rfl, upd_same, .cons (by rw [effW_nil]; exact dp_up (gup1 e1.gh hp2) d1) .nil⟩
    refine ⟨_, rfl, by decide, by decide, ?_⟩
    rw [show Int.toNat 40 = 40 by rfl]
    refine for_it walk_range (fun i σ H' => ∃ (G' : Hp) (F : List (List Nat)) (fv : V) (v2 v3 v4 v5 v6 : Option V), Ext [] G H G' H' ∧ Ld K G' fv (F.map eR) ∧ BInv k rows F i [] 0 0 ∧ σ = [some (.ref ua), some fv, v2, v3, v4, v5, v6, none])
      ⟨_, _, .ref p2, none, none, none, none, none, e2, d2, .init, rfl⟩ (fun _ _ _ _ _ => trivial) ?_ ?_
    · rintro t x σ H2 H3 hi ⟨G2, F, fv, v2, v3, v4, v5, v6, e2, d2, inv, rfl⟩ ⟨rfl, rfl⟩
      refine ⟨by show 0 ≤ sizeLine; decide, fun D hD => ?_⟩
      have e3 := e2.newM (o := .lst []) hD
      obtain ⟨fa, fx, rfl, hf1, hf2⟩ := d2
      have hfl := dpA_len hf2
      rw [List.length_map] at hfl
      refine ⟨_, rfl, fa, rfl, ⟨_, e3.gh.seq (.of hf1)⟩, for_it (walk_list (K := K) (a := fa) (xs := fx)) (fun i σ H' => ∃ (G' : Hp) (L : List (List Nat)) (lx : List V) (v4 v5 v6 : Option V), Ext [] G H G' H' ∧ L2.Same G2 G' ∧ G' D = none ∧ H' D = some (.lst lx) ∧ DpAll K G' lx (L.map eR) ∧ BInv k rows F t L i 0 ∧ σ = [some (.ref ua), some (.ref fa), some (vI t), some (.ref D), v4, v5, v6, none])
        ⟨G2, [], [], v4, v5, v6, e3, L2.Same.refl _, e2.gh.free hD, upd_same, .nil, inv, by simp⟩ (fun i σ H' _ ⟨G', _, _, _, _, _, e, g, _⟩ => (g.trans e.gh).seq (.of hf1)) ?_ ?_⟩
      · rintro i z σ H4 H5 hi ⟨G4, L, lx, v4, v5, v6, e4, g4, gD, hDx, dL, inv, rfl⟩ ⟨rfl, hz⟩
        have hiF : i < F.length := by rw [← hfl]; exact hi
        obtain ⟨d, hd, hz2⟩ := dpA_at' hf2 hz
        obtain rfl : d = eR F[i] := by simp [hiF] at hd; exact hd.symm
        have hFi : F[i].length = rows.length ∧ ∀ s ∈ F[i], s < rows.length := by
          obtain ⟨w', h1, _, h2⟩ := (inv.f F[i]).mp (List.getElem_mem hiF)
          exact isEff_ok ok ((isEff_iff ok).mpr ⟨w', h1, h2⟩)
        -- len(steps[0])
        have h0 : ux[0]? = some (ux[0]'(by omega)) := by simp
        obtain ⟨dd, hd, h02⟩ := dpA_at' hu2 h0
        obtain rfl : dd = eL rows[0] := by
          simp [show 0 < rows.length by omega] at hd; exact hd.symm
        obtain ⟨r0, hr0, hr02⟩ := dp_rowL h02
        have hr0l := ok.rl _ (List.getElem_mem (show 0 < rows.length by omega))
        refine ⟨_, rfl, ua, ux, 0, ux[0]'(by omega), rfl, rfl, (e4.gg.trans e4.gh).seq hu1, atI_nat (j := 0) h0, r0, _, by rw [hr0], .inl ((e4.gg.trans e4.gh).seq hr02), (k : Int), by rw [List.length_map, hr0l], by omega, by omega, ?_⟩
        rw [Int.toNat_natCast]
        refine for_it walk_range (fun c σ H' => ∃ (G' : Hp) (L : List (List Nat)) (lx : List V) (v5 v6 : Option V), Ext [] G H G' H' ∧ L2.Same G2 G' ∧ G' D = none ∧ H' D = some (.lst lx) ∧ DpAll K G' lx (L.map eR) ∧ BInv k rows F t L i c ∧ σ = [some (.ref ua), some (.ref fa), some (vI t), some (.ref D), some z, v5, v6, none])
          ⟨G4, L, lx, v5, v6, e4, g4, gD, hDx, dL, inv, rfl⟩ (fun _ _ _ _ _ => trivial) ?_ ?_
        · rintro c cv σ H6 H7 hc ⟨G6, L, lx, v5, v6, e6, g6, gD, hDx, dL, inv, rfl⟩ ⟨rfl, rfl⟩
          have hzc : (fun i : Nat => V.int (0 + (i : Int))) c = vI c := by simp
          rw [hzc]
          obtain ⟨za, rfl, hza⟩ := dp_row (dp_up g6 hz2)
          have few := inv.few ok hn
          refine ⟨_, rfl, za, rfl, ⟨_, same_t e6.gh hza⟩, fun D8 hD8 => lcTD (K := K) ((stepF rows F[i] c).map eI) (by simp [stepF]) e6.gh hza hD8 (fun _ => rfl) (by simp; omega) (fun j x r hj hr G8 H8 e8 Q8 q8 => ?_) fun G8 H8 e8 d8 => ?_⟩
          · have hjl : j < F[i].length := by have := (List.getElem?_eq_some_iff.mp hj).1; simpa using this
            obtain rfl : x = vI F[i][j] := by simp [hjl] at hj; exact hj.symm
            obtain rfl : r = eI (at2 rows F[i][j] c) := by simp [stepF, hjl] at hr; exact hr.symm
            have hs9 := hFi.2 _ (List.getElem_mem hjl)
            have hrl := ok.rl _ (List.getElem_mem hs9)
            refine ⟨_, rfl, _, rfl, rd_rowL (dp_up (e6.gg.trans e8.gg) hu) e8.gh hs9 fun u1 h1 => ⟨_, rfl, rd_natL h1 e8.gh (c := c) (by omega) ?_⟩⟩
            rw [← at2_eq ok hs9 (by omega : c < rows[F[i][j]].length)]
            exact q8 _ _ _ (Ext.refl e8.gh) (.int _)
          · dsimp only [tNil]
            refine rd_tupOf d8 e8.gh fun p9 G9 H9 e9 d9 => ?_
            have e89 := e8.trans e9
            obtain ⟨k9, g9⟩ := e89.keepM hDx gD (by simp)
            have dL9 : DpAll K G9 lx (L.map eR) := dpA_up e89.gg dL
            have e69 := e6.trans e89
            have dF9 : Dp K H9 (.ref fa) (eLR F) := dp_up e69.gh (ld_dp ⟨fa, fx, rfl, (g6.trans e89.gg) _ _ hf1, dpA_up (g6.trans e89.gg) hf2⟩)
            have dL9' : Dp K H9 (.ref D) (eLR L) := .lst (.of k9) (dpA_up e69.gh dL9)
            have lxl := dpA_len dL
            rw [List.length_map] at lxl
            have done : stepF rows F[i] c ∈ F ++ L → ∃ (G' : Hp) (L : List (List Nat)) (lx : List V) (v5 v6 : Option V), Ext [] G H G' H9 ∧ L2.Same G2 G' ∧ G' D = none ∧ H9 D = some (.lst lx) ∧ DpAll K G' lx (L.map eR) ∧ BInv k rows F t L i (c + 1) ∧ [some (V.ref ua), some (V.ref fa), some (vI t), some (V.ref D), some (V.ref za), some (vI c), some (V.ref p9), none] = [some (.ref ua), some (.ref fa), some (vI t), some (.ref D), some (.ref za), v5, v6, none] :=
              fun h => ⟨G9, L, lx, _, _, e69, g6.trans e89.gg, g9, k9, dL9, inv.old hiF h, rfl⟩
            refine ⟨_, rfl, _, rfl, eR (stepF rows F[i] c), F.map eR, dp_up e69.gh d9, dF9, sh_row _, sh_rows F, _, rfl, ?_⟩
            rw [any_row]
            by_cases hin : stepF rows F[i] c ∈ F
            · refine iteFb (by simp [hin]) (iteFb rfl (done (List.mem_append_left _ hin)))
            · refine iteTb (by simp [hin]) ⟨_, rfl, _, rfl, eR (stepF rows F[i] c), L.map eR, dp_up e69.gh d9, dL9', sh_row _, sh_rows L, _, rfl, ?_⟩
              rw [any_row]
              by_cases hil : stepF rows F[i] c ∈ L
              · exact iteFb (by simp [hil]) (done (List.mem_append_right _ hil))
              · refine iteTb (by simp [hil]) ⟨_, rfl, .inl ⟨rfl, _, .of k9⟩, _, rfl, D, lx, _, rfl, rfl, k9, Nat.lt_of_le_of_lt (show lx.length ≤ 4000 by omega) (by decide), G9, L ++ [stepF rows F[i] c], lx ++ [.ref p9], _, _, e69.mut (.inl (e2.base hD)) g9, g6.trans e89.gg, g9, upd_same, ?_, inv.new hiF hc fun z => (List.mem_append.mp z).elim hin hil, rfl⟩
                rw [List.map_append]
                exact dpA_app dL9 (.cons d9 .nil)
        · rintro σ H6 ⟨G6, L, lx, v5, v6, e6, g6, gD, hDx, dL, inv, rfl⟩
          exact ⟨G6, L, lx, _, _, _, e6, g6, gD, hDx, dL, inv.next, rfl⟩
      · rintro σ H4 ⟨G4, L, lx, v4, v5, v6, e4, g4, gD, hDx, dL, inv, rfl⟩
        rw [hfl] at inv
        have hDH : H3 D = none := hD
        have few := inv.few ok hn
        have lxl := dpA_len dL
        rw [List.length_map] at lxl
        have e4p := e4.pub (e2.base hD) gD hDx
        have g4p : L2.Same G4 (upd G4 D (.lst lx)) := gup2 gD
        have dL4 : Dp K (upd G4 D (.lst lx)) (.ref D) (eLR L) := .lst (.of upd_same) (dpA_up g4p dL)
        have hLD : upd G4 D (.lst lx) D = some (.lst lx) := upd_same
        generalize upd G4 D (.lst lx) = G5 at e4p g4p dL4 hLD
        have g25 := g4.trans g4p
        refine ⟨_, rfl, by show 0 ≤ sizeLine; decide, fun p hp => ?_⟩
        have e5 := e4p.newM (o := .lst []) hp
        have hend : PyData.eqv (eLR L) (.list []) = decide (L = []) := eqv_rows_nil L
        refine ⟨eLR L, .list [], dp_up e5.gh dL4, .lst (.of upd_same) .nil, sh_rows L, rfl, _, rfl, ?_⟩
        rw [hend]
        by_cases hL : L = []
        · refine iteTb (by simp [hL]) ?_
          subst hL
          exact ⟨_, rfl, srt_ok (by have := inv.nd; rw [List.append_nil] at this; exact this) (inv.all ok) e5 (ld_dp ⟨fa, fx, rfl, g25 _ _ hf1, dpA_up g25 hf2⟩)⟩
        · refine iteFb (by simp [hL]) ?_
          refine ⟨_, rfl, _, rfl, fa, D, fx, lx, rfl, rfl, e5.gh _ _ (g25 _ _ hf1), e5.gh _ _ hLD, Nat.le_trans (show fx.length + lx.length ≤ 4000 by omega) (by decide), fun p8 hp8 => ?_⟩
          have e8 := e5.new (o := .lst (fx ++ lx)) hp8
          have g8 := gup1 (o := .lst (fx ++ lx)) e5.gh hp8
          refine ⟨_, F ++ L, .ref p8, _, _, _, _, _, e8, ⟨p8, _, rfl, upd_same, ?_⟩, inv.turn, rfl⟩
          rw [List.map_append]
          exact dpA_app (dpA_up (g25.trans g8) hf2) (dpA_up (g4p.trans g8) dL)
    · rintro σ H2 ⟨G2, F, fv, v2, v3, v4, v5, v6, e2, d2, inv, rfl⟩
      exact ⟨_, rfl, srt_ok (by have := inv.nd; rw [List.append_nil] at this; exact this) (inv.all40 ok h40) e2 (ld_dp d2)⟩
end
end K78

/-! text L13 -/
set_option Elab.async false
set_option linter.all false
set_option maxRecDepth 100000
set_option maxHeartbeats 4000000
namespace K78
open PySem PySem.Spec PyProof.Rows L2
section
variable {P : Program} {w : World} {K : PySem.W.Frag} {mg : Str → Option Value} {base : Heap} {C : Addr} {G H : Hp}
/-- list.index over rows -/
theorem ix_rows {fa : Addr} {E : List (List Nat)} {r : List Nat} {y : V} {Q : VK} (hE : Dp K H (.ref fa) (eLR E)) (hy : Dp K H y (eR r)) (hm : r ∈ E) (q : Q (vI (E.idxOf r)) H) : rIndexD K (.ref fa) [y] H Q := by
  have hl := List.idxOf_lt_length_of_mem hm
  refine ⟨fa, y, eR r, E.map eR, E.idxOf r, eR r, rfl, rfl, hE, hy, sh_rows E, sh_row r, ?_, ?_, ?_, q⟩
  · rw [List.getElem?_map, List.getElem?_eq_getElem hl, List.getElem_idxOf hl]; rfl
  · rw [eqv_row]; simp
  · intro m z' hm' hz
    have hmE : m < E.length := by omega
    obtain rfl : z' = eR E[m] := by simp [hmE] at hz; exact hz.symm
    rw [eqv_row]
    refine decide_eq_false fun z => ?_
    have := List.not_of_lt_findIdx (p := fun x => x == r) (xs := E) (i := m) (by exact hm')
    simp [z] at this
def spLMirror (K : PySem.W.Frag) : Sp := pureSp fun G vs Post => ∃ (u a : V) (k : Nat) (rows E : List (List Nat)), vs = [u, a] ∧ Dp K G u (eLL rows) ∧ Dp K G a (eLR E) ∧ OkM k rows ∧ rows.length ≤ 5 ∧ AllEff k rows E ∧ Post = fun G' v => Dp K G' v (eRR (mirF k rows E))
theorem sc_l_mirror : FnScope ["_law_steps_here", "_law_effects_here", "_law_found", "_law_one", "_law_row", "_law_command", "_law_state"] ["_law_steps_here", "_law_effects_here"] (defScope s_l_mirror) := ⟨rfl, rfl, rfl, by decide +kernel, rfl, by decide +kernel, by decide +kernel⟩
theorem ok_l_mirror (T : Txt K mg C) (F : HasD K mg "_law_mirror" s_l_mirror) : Def P w K mg base "_law_mirror" 1 ["_law_steps_here", "_law_effects_here"] (spLMirror K) := by
  refine mkDef F sc_l_mirror (fun _ _ _ _ _ _ us hl => match us, hl with | [_, _], _ => rfl) (fun vs H Q E h => ?_) fun f cdv A outer s H vs Q Es hr h => ?_
  · obtain ⟨G, Post, _, ⟨u, a, k, rows, Ef, rfl, _⟩, _⟩ := h
    rfl
  · obtain ⟨G, Post, gh, ⟨u, a, k, rows, E, rfl, hu, ha, ok, hn, hE, rfl⟩, q⟩ := h
    refine ⟨_, (pss_cons (ps_set (i := 2) sc_l_mirror.nd rfl (by first | exact Or.inl rfl | exact Or.inr rfl) (pe_lst pa_nil)) (pss_cons (ps_for PassesOwn.never rfl (piL K (pv 1)) (pg_name (i := 3) sc_l_mirror.nd rfl (by first | exact Or.inl rfl | exact Or.inr rfl)) (pss_cons (ps_set (i := 4) sc_l_mirror.nd rfl (by first | exact Or.inl rfl | exact Or.inr rfl) (pe_lst pa_nil)) (pss_cons (ps_for PassesOwn.never rfl (pi_range1 (by rfl) T.f_range (pa_cons (pe_callB (lenS K) (by rfl) T.f_len (by decide +kernel) (pa_cons (pe_ix (ixL K) (pv 0) pe_int (fun _ _ => rfl)) pa_nil)) pa_nil)) (pg_name (i := 5) sc_l_mirror.nd rfl (by first | exact Or.inl rfl | exact Or.inr rfl)) (pss_one (ps_expr (pe_bm PySem.F.plainAttrs_list PySem.F.slot_list_append PySem.F.type_list_append mt_append (pv 4) (pa_cons (pe_bm PySem.F.plainAttrs_list PySem.F.slot_list_index PySem.F.type_list_index (indexD K (hu65 hr)) (pv 1) (pa_cons (pe_callTy (tupOf K) (by rfl) T.f_tuple (by decide +kernel) (pa_cons (pe_lc (own := [("_law_state", 6)]) rfl sc_l_mirror.nd (pi_range1 (by rfl) T.f_range (pa_cons (pe_callB (lenS K) (by rfl) T.f_len (by decide +kernel) (pa_cons (pv 0) pa_nil)) pa_nil)) (blkOk_by (own := [("_law_state", 6)]) (by kernel_rfl)) (fun _ _ _ _ _ => (pg_name (i := 6) sc_l_mirror.nd rfl (by first | exact Or.inl rfl | exact Or.inr rfl))) (fun _ _ _ _ _ => pts_nil) (fun _ _ _ _ _ => (pe_ix (ixT K) (pv 3) (pe_ix (ixL K) (pe_ix (ixL K) (pv 0) (pv 6) (fun _ _ => rfl)) (pv 5) (fun _ _ => rfl)) (fun _ _ => rfl)))) pa_nil)) pa_nil)) pa_nil))))) (pss_one (ps_expr (pe_bm PySem.F.plainAttrs_list PySem.F.slot_list_append PySem.F.type_list_append mt_append (pv 2) (pa_cons (pe_callTy (tupOf K) (by rfl) T.f_tuple (by decide +kernel) (pa_cons (pv 4) pa_nil)) pa_nil))))))) (pss_one (ps_ret (pe_callTy (tupOf K) (by rfl) T.f_tuple (by decide +kernel) (pa_cons (pv 2) pa_nil)))))), ?_⟩
    obtain ⟨ua, ux, rfl, hu1, hu2⟩ := dp_list hu
    have hul := dpA_len hu2
    rw [List.length_map] at hul
    have hn1 := ok.n1
    have hk9 := ok.k9
    obtain ⟨fa, fx, rfl, hf1, hf2⟩ := dp_list ha
    have hfl := dpA_len hf2
    rw [List.length_map] at hfl
    have few := hE.few ok hn
    refine ⟨by show 0 ≤ sizeLine; decide, fun D hD => ?_⟩
    have e1 := (Ext.refl (X := []) gh).newM (o := .lst []) hD
    refine ⟨_, rfl, fa, rfl, ⟨_, e1.gh.seq hf1⟩, for_it (walk_list (K := K) (a := fa) (xs := fx)) (fun i σ H' => ∃ (G' : Hp) (mx : List V) (v3 v4 v5 : Option V), Ext [] G H G' H' ∧ G' D = none ∧ H' D = some (.lst mx) ∧ DpAll K G' mx ((mirF k rows E).take i |>.map eR) ∧ σ = [some (.ref ua), some (.ref fa), some (.ref D), v3, v4, v5, none])
      ⟨G, [], none, none, none, e1, gh.free hD, upd_same, by simp; exact .nil, rfl⟩ (fun i σ H' _ ⟨G', _, _, _, _, e, _⟩ => (e.gg.trans e.gh).seq hf1) ?_ ?_⟩
    · rintro i z σ H2 H3 hi ⟨G2, mx, v3, v4, v5, e2, gD, hDx, dD, rfl⟩ ⟨rfl, hz⟩
      have hiE : i < E.length := by rw [← hfl]; exact hi
      obtain ⟨d, hd, hz2⟩ := dpA_at' hf2 hz
      obtain rfl : d = eR E[i] := by simp [hiE] at hd; exact hd.symm
      have hEi := isEff_ok ok (hE.mem.mp (List.getElem_mem hiE))
      have hml : i < (mirF k rows E).length := by rw [mirF, List.length_map]; exact hiE
      have hmi : (mirF k rows E)[i] = (List.range k).map fun c => E.idxOf (followedF (singleF rows c) E[i]) := by simp [mirF]
      refine ⟨by show 0 ≤ sizeLine; decide, fun R hR => ?_⟩
      have e3 := e2.newM (o := .lst []) hR
      have hDR : D ≠ R := ne_of_none hDx hR
      have k3 : upd H3 R (.lst []) D = some (.lst mx) := by rw [upd_ne hDR]; exact hDx
      have kR : upd H3 R (.lst []) R = some (.lst []) := upd_same
      have gR : G2 R = none := e2.gh.free hR
      generalize upd H3 R (.lst []) = H4 at e3 k3 kR ⊢
      -- len(steps[0])
      have h0 : ux[0]? = some (ux[0]'(by omega)) := by simp
      obtain ⟨dd, hd, h02⟩ := dpA_at' hu2 h0
      obtain rfl : dd = eL rows[0] := by
        simp [show 0 < rows.length by omega] at hd; exact hd.symm
      obtain ⟨r0, hr0, hr02⟩ := dp_rowL h02
      have hr0l := ok.rl _ (List.getElem_mem (show 0 < rows.length by omega))
      refine ⟨_, rfl, ua, ux, 0, ux[0]'(by omega), rfl, rfl, (e3.gg.trans e3.gh).seq hu1, atI_nat (j := 0) h0, r0, _, by rw [hr0], .inl ((e3.gg.trans e3.gh).seq hr02), (k : Int), by rw [List.length_map, hr0l], by omega, by omega, ?_⟩
      rw [Int.toNat_natCast]
      refine for_it walk_range (fun c σ H' => ∃ (G' : Hp) (v5 : Option V), Ext [] G H G' H' ∧ L2.Same G2 G' ∧ G' D = none ∧ G' R = none ∧ H' D = some (.lst mx) ∧ H' R = some (.lst (((mirF k rows E)[i].take c).map vI)) ∧ σ = [some (.ref ua), some (.ref fa), some (.ref D), some z, some (.ref R), v5, none])
        ⟨G2, v5, e3, L2.Same.refl _, gD, gR, k3, by simpa using kR, rfl⟩ (fun _ _ _ _ _ => trivial) ?_ ?_
      · rintro c cv σ H6 H7 hc ⟨G6, v5, e6, g6, gD, gR, hDx, hRx, rfl⟩ ⟨rfl, rfl⟩
        have hzc : (fun i : Nat => V.int (0 + (i : Int))) c = vI c := by simp
        rw [hzc]
        refine ⟨_, rfl, .inl ⟨rfl, _, .of hRx⟩, _, rfl, .inl ⟨rfl, _, (e6.gg.trans e6.gh).seq hf1⟩, _, rfl, ua, ux, rfl, .inl ((e6.gg.trans e6.gh).seq hu1), (rows.length : Int), by rw [hul], by omega, by omega, fun D8 hD8 => ?_⟩
        rw [Int.toNat_natCast]
        have hst : ∀ s ∈ singleF rows c, s < rows.length := singleF_lt ok hc
        refine lcRD (K := K) ((followedF (singleF rows c) E[i]).map eI) (by simp [followedF, singleF]) e6.gh hD8 (fun _ => rfl) (by omega) (fun j r hj hr G8 H8 e8 Q8 q8 => ?_) fun G8 H8 e8 d8 => ?_
        · have ha2 := at2_lt ok hj hc
          have hrl := ok.rl _ (List.getElem_mem hj)
          obtain rfl : r = eI (E[i][at2 rows j c]'(by rw [hEi.1]; exact ha2)) := by
            have : rows[j].getD c 0 = at2 rows j c := by simp [at2, List.getD, hj]
            have hx : E[i].getD (at2 rows j c) 0 = E[i][at2 rows j c]'(by rw [hEi.1]; exact ha2) := by simp [List.getD, hEi.1, ha2]
            simp only [followedF, singleF, List.map_map, List.getElem?_map, List.getElem?_eq_getElem hj, Option.map_some, Function.comp_apply, this, hx] at hr
            exact (Option.some.inj hr).symm
          refine ⟨_, rfl, _, rfl, _, rfl, ?_⟩
          rw [Int.zero_add]
          refine rd_rowL (dp_up (e6.gg.trans e8.gg) hu) e8.gh hj fun u1 h1 => ⟨_, rfl, rd_natL h1 e8.gh (c := c) (by omega) ?_⟩
          rw [← at2_eq ok hj (by omega : c < rows[j].length)]
          exact rd_nat (dp_up (e6.gg.trans e8.gg) hz2) e8.gh (by rw [hEi.1]; exact ha2) (q8 _ _ _ (Ext.refl e8.gh) (.int _))
        · dsimp only [tNil]
          refine rd_tupOf d8 e8.gh fun p9 G9 H9 e9 d9 => ?_
          have e89 := e8.trans e9
          obtain ⟨kD, gD9⟩ := e89.keepM hDx gD (by simp)
          obtain ⟨kR, gR9⟩ := e89.keepM hRx gR (by simp)
          have e69 := e6.trans e89
          have hmem : followedF (singleF rows c) E[i] ∈ E := hE.mem.mpr (.step (hE.mem.mp (List.getElem_mem hiE)) hc)
          refine ix_rows (dp_up e69.gh (dp_up e69.gg ha)) (dp_up e69.gh d9) hmem ?_
          have hcl : c < (mirF k rows E)[i].length := by rw [hmi]; simp; exact hc
          refine ⟨R, _, _, rfl, rfl, kR, Nat.lt_of_le_of_lt (show _ ≤ 1000 by simp; omega) (by decide), G9, _, e69.mut (.inl (e2.base hR)) gR9, g6.trans e89.gg, gD9, gR9, by rw [upd_ne hDR]; exact kD, ?_, rfl⟩
          rw [upd_same, List.take_succ_eq_append_getElem hcl, List.map_append]
          simp [hmi]
      · rintro σ H6 ⟨G6, v5, e6, g6, gD, gR, hDx, hRx, rfl⟩
        rw [show (mirF k rows E)[i].take k = (mirF k rows E)[i] by rw [List.take_of_length_le]; rw [hmi]; simp] at hRx
        have e7 := e6.pub (e2.base hR) gR hRx
        have g7 : L2.Same G6 (upd G6 R (.lst ((mirF k rows E)[i].map vI))) := gup2 gR
        have gD7 : upd G6 R (.lst ((mirF k rows E)[i].map vI)) D = none := by rw [upd_ne hDR]; exact gD
        have d7 : Ld K (upd G6 R (.lst ((mirF k rows E)[i].map vI))) (.ref R) ((mirF k rows E)[i].map eI) := ⟨R, _, rfl, upd_same, dpA_ints _⟩
        generalize upd G6 R (.lst ((mirF k rows E)[i].map vI)) = G7 at e7 g7 gD7 d7
        have hml' := dpA_len dD
        refine ⟨_, rfl, .inl ⟨rfl, _, .of hDx⟩, _, rfl, ?_⟩
        dsimp only [tNil]
        refine rd_tupOf d7 e7.gh fun p9 G9 H9 e9 d9 => ?_
        obtain ⟨kD, gD9⟩ := e9.keepM hDx gD7 (by simp)
        refine ⟨D, mx, _, rfl, rfl, kD, Nat.lt_of_le_of_lt (show mx.length ≤ 4000 by rw [hml']; simp; omega) (by decide), G9, mx ++ [.ref p9], _, _, _, (e7.trans e9).mut (.inl hD) gD9, gD9, upd_same, ?_, rfl⟩
        rw [List.take_succ_eq_append_getElem hml, List.map_append]
        exact dpA_app (dpA_up (g6.trans (g7.trans e9.gg)) dD) (.cons d9 .nil)
    · rintro σ H2 ⟨G2, mx, v3, v4, v5, e2, gD, hDx, dD, rfl⟩
      rw [hfl, show (mirF k rows E).take E.length = mirF k rows E by rw [List.take_of_length_le]; rw [mirF, List.length_map]; exact Nat.le_refl _] at dD
      have e3 := e2.pub hD gD hDx
      have d3 : Ld K (upd G2 D (.lst mx)) (.ref D) ((mirF k rows E).map eR) := ⟨D, _, rfl, upd_same, dpA_up (gup2 gD) dD⟩
      refine ⟨_, rfl, ?_⟩
      dsimp only [tNil]
      exact rd_tupOf d3 e3.gh fun p9 G9 H9 e9 d9 => q _ _ _ (e3.trans e9) d9
end
end K78

/-! text L14 -/
set_option Elab.async false
set_option linter.all false
set_option maxRecDepth 100000
set_option maxHeartbeats 4000000
namespace K78
open PySem PySem.Spec PyProof.Rows L2
/-! ### _law_built, plain -/
abbrev BSt := List (List Nat) × Nat × Nat × Nat
def bPart (m : Nat) (x : BSt) (p : Nat × List Nat) : BSt :=
  if p.1 = 0 then (if 0 < x.2.1 ∧ x.1.length + x.2.1 + 2 ≤ 5 then (x.1 ++ firstF p.2 x.2.1 x.1.length, x.2) else (x.1, 0, x.2.2))
  else if p.1 = 1 then (if 0 < x.2.2.1 ∧ x.1.length + 2 * x.2.2.1 ≤ 5 then (x.1 ++ lastF p.2 x.2.2.1 x.1.length, x.2) else (x.1, x.2.1, 0, x.2.2.2))
  else (if x.1.length + x.2.2.2 * m ≤ 5 then (x.1 ++ wheelF p.2 x.2.2.2 m x.1.length, x.2) else (x.1, x.2.1, x.2.2.1, 1))
def RowsOk (k : Nat) (rows : List (List Nat)) : Prop := rows.length ≤ 5 ∧ ∀ r ∈ rows, r.length = k ∧ ∀ s ∈ r, s < rows.length
def StOk (k m : Nat) (x : BSt) : Prop := RowsOk k x.1 ∧ x.2.1 ≤ 3 ∧ x.2.2.1 ≤ 2 ∧ 1 ≤ x.2.2.2 ∧ x.2.2.2 ≤ 4
theorem rowsOk_app {k : Nat} {rows more : List (List Nat)} (h : RowsOk k rows) (hl : rows.length + more.length ≤ 5) (hm : ∀ r ∈ more, r.length = k ∧ ∀ s ∈ r, s < rows.length + more.length) : RowsOk k (rows ++ more) := by
  refine ⟨by rw [List.length_append]; exact hl, fun r hr => ?_⟩
  rw [List.length_append]
  rcases List.mem_append.mp hr with hr | hr
  · exact ⟨(h.2 r hr).1, fun s hs => Nat.lt_of_lt_of_le ((h.2 r hr).2 s hs) (by omega)⟩
  · exact hm r hr
theorem firstF_len (bs : List Nat) {f : Nat} (b : Nat) (hf : 1 ≤ f) : (firstF bs f b).length = f + 2 := by simp [firstF]; omega
theorem firstF_ok {k : Nat} {bs : List Nat} (hb : Bits k bs) {f : Nat} (b : Nat) (hf : 1 ≤ f) : ∀ r ∈ firstF bs f b, r.length = k ∧ ∀ s ∈ r, s < b + (f + 2) := by
  obtain ⟨h1, h2⟩ := hb
  intro r hr
  simp only [firstF, List.mem_append, List.mem_map, List.mem_range, List.mem_cons, List.not_mem_nil, or_false] at hr
  rcases hr with (⟨a, ha, rfl⟩ | rfl) | rfl | rfl
  · refine ⟨by simp [h1], fun s hs => ?_⟩
    obtain ⟨x, _, rfl⟩ := List.mem_map.mp hs
    omega
  · refine ⟨by simp [h1], fun s hs => ?_⟩
    obtain ⟨x, hx, rfl⟩ := List.mem_map.mp hs
    have := h2 x hx
    omega
  · refine ⟨by simp [h1], fun s hs => ?_⟩
    have := List.eq_of_mem_replicate hs
    omega
  · refine ⟨by simp [h1], fun s hs => ?_⟩
    have := List.eq_of_mem_replicate hs
    omega
theorem lastF_len (bs : List Nat) (f b : Nat) : (lastF bs f b).length = 2 ^ f := by simp [lastF]
theorem lastF_ok {k : Nat} {bs : List Nat} (hb : Bits k bs) (f b : Nat) : ∀ r ∈ lastF bs f b, r.length = k ∧ ∀ s ∈ r, s < b + 2 ^ f := by
  intro r hr
  obtain ⟨s, _, rfl⟩ := List.mem_map.mp hr
  refine ⟨by simp [hb.1], fun t ht => ?_⟩
  obtain ⟨x, _, rfl⟩ := List.mem_map.mp ht
  have := Nat.mod_lt (2 * s + x) (Nat.two_pow_pos f)
  omega
theorem wheelF_len (bs : List Nat) (st m b : Nat) : (wheelF bs st m b).length = st * m := by
  unfold wheelF
  rw [List.length_flatMap]
  induction st with
  | zero => simp
  | succ st ih => rw [List.range_succ, List.map_append, List.sum_append]; simp only [List.length_map, List.length_range] at ih ⊢; rw [show ((List.range st).map fun a => m).sum = st * m by simpa using ih]; simp [Nat.succ_mul]
theorem wheelF_ok {k : Nat} {bs : List Nat} (hb : Bits k bs) {st m : Nat} (b : Nat) (hst : 1 ≤ st) (hm : 1 ≤ m) : ∀ r ∈ wheelF bs st m b, r.length = k ∧ ∀ s ∈ r, s < b + st * m := by
  intro r hr
  obtain ⟨p, _, hr⟩ := List.mem_flatMap.mp hr
  obtain ⟨s, _, rfl⟩ := List.mem_map.mp hr
  refine ⟨by simp [hb.1], fun t ht => ?_⟩
  obtain ⟨x, _, rfl⟩ := List.mem_map.mp ht
  have h1 : (p + 1) % st < st := Nat.mod_lt _ hst
  have h2 : (s + if p = 0 then x else 0) % m < m := Nat.mod_lt _ hm
  have h3 : ((p + 1) % st + 1) * m ≤ st * m := Nat.mul_le_mul_right m h1
  rw [Nat.add_mul, Nat.one_mul] at h3
  omega
theorem bPart_ok {k m : Nat} {x : BSt} (hm : 1 ≤ m) {p : Nat × List Nat} (hp : Bits k p.2) (h : StOk k m x) : StOk k m (bPart m x p) := by
  obtain ⟨h1, h2, h3, h4, h5⟩ := h
  unfold bPart
  split
  · split
    · rename_i z
      exact ⟨rowsOk_app h1 (by rw [firstF_len _ _ z.1]; omega) (by rw [firstF_len _ _ z.1]; exact firstF_ok hp _ z.1), h2, h3, h4, h5⟩
    · exact ⟨h1, Nat.zero_le _, h3, h4, h5⟩
  · split
    · split
      · rename_i z
        have : 2 ^ x.2.2.1 = 2 * x.2.2.1 := by
          have : x.2.2.1 = 1 ∨ x.2.2.1 = 2 := by omega
          rcases this with z | z <;> rw [z]
        exact ⟨rowsOk_app h1 (by rw [lastF_len, this]; omega) (by rw [lastF_len]; exact lastF_ok hp _ _), h2, h3, h4, h5⟩
      · exact ⟨h1, h2, Nat.zero_le _, h4, h5⟩
    · split
      · rename_i z
        exact ⟨rowsOk_app h1 (by rw [wheelF_len]; exact z) (by rw [wheelF_len]; exact wheelF_ok hp _ h4 hm), h2, h3, h4, h5⟩
      · exact ⟨h1, h2, h3, Nat.le_refl _, by show (1 : Nat) ≤ 4; decide⟩
theorem awaitF_ok {k : Nat} {cs : List Nat} (hl : cs.length ≤ 3) : RowsOk k (awaitF k cs.length cs) := by
  have hlen : (awaitF k cs.length cs).length = cs.length + 2 := by simp [awaitF, aRows_len]
  refine ⟨by omega, fun r hr => ?_⟩
  rw [hlen]
  simp only [awaitF, List.mem_append, List.mem_cons, List.not_mem_nil, or_false] at hr
  have rep : r = List.replicate k (cs.length + 1) → r.length = k ∧ ∀ s ∈ r, s < cs.length + 2 := by
    rintro rfl
    refine ⟨by simp, fun s hs => ?_⟩
    have := List.eq_of_mem_replicate hs
    omega
  rcases hr with hr | hr | hr
  · obtain ⟨⟨c, i⟩, hp, rfl⟩ := List.mem_map.mp hr
    have hi := List.snd_lt_of_mem_zipIdx hp
    refine ⟨by simp, fun s hs => ?_⟩
    rcases List.mem_or_eq_of_mem_set hs with hs | hs
    · have := List.eq_of_mem_replicate hs
      omega
    · simp at hi; omega
  · exact rep hr
  · exact rep hr
/-- what _law_built builds, before the states are named anew -/
def BuiltP (k : Nat) (rows : List (List Nat)) (f l st : Nat) : Prop := ∃ (r0 : List (List Nat)) (f0 l0 s0 m : Nat) (o : List (Nat × List Nat)) (r1 : List (List Nat)), (k = 2 ∨ k = 3) ∧
  (r0 = [] ∨ ∃ cs : List Nat, (cs.length = 2 ∨ cs.length = 3) ∧ (∀ c ∈ cs, c < k) ∧ r0 = awaitF k cs.length cs) ∧ f0 ≤ 3 ∧ l0 ≤ 2 ∧ s0 ∈ [1, 1, 2, 2, 3, 4] ∧ m ∈ (if s0 < 3 then [2, 2, 3] else [2]) ∧
  (o.map (·.1)).Perm [0, 1, 2] ∧ (∀ p ∈ o, Bits k p.2) ∧ o.foldl (bPart m) (r0, f0, l0, s0) = (r1, f, l, st) ∧ rows = if r1 = [] then [List.replicate k 0] else r1
end K78

/-! text L15 -/
set_option Elab.async false
set_option linter.all false
set_option maxRecDepth 100000
set_option maxHeartbeats 4000000
namespace K78
open PySem PySem.Spec PyProof.Rows L2
section
variable {P : Program} {w : World} {K : PySem.W.Frag} {mg : Str → Option Value} {base : Heap} {C : Addr} {G H G' H' : Hp} {d l : Addr}
theorem go_any {Q : VK} {Es : XK} {n : Nat} (e : Ext [d, l] G H G' H') (D : Deal d l G' H') (h1 : 1 ≤ n) (h9 : n ≤ 1000000)
    (q : ∀ x, x < n → ∀ G2 H2, Ext [d, l] G H G2 H2 → Ext [d, l] G' H' G2 H2 → Deal d l G2 H2 → Q (vI x) H2) : spAny K [.ref d, vI n] H' Q Es :=
  ⟨d, l, G', _, _, rfl, e.gh, D, ⟨n, rfl, h1, h9, rfl⟩, fun v G2 H2 e2 D2 ⟨x, hx, hv⟩ => by subst hv; exact q x hx G2 H2 (e.trans e2) e2 D2⟩
theorem go_of {Q : VK} {Es : XK} {ns : List Nat} {p : Addr} (e : Ext [d, l] G H G' H') (D : Deal d l G' H') (hp : H' p = none) (h1 : ns ≠ []) (h9 : ns.length ≤ 1000)
    (q : ∀ x, x ∈ ns → ∀ G2 H2, Ext [d, l] G H G2 H2 → Ext [d, l] G' H' G2 H2 → Deal d l G2 H2 → Q (vI x) H2) : spOf K [.ref d, .ref p] (upd H' p (.lst (ns.map vI))) Q Es :=
  have e0 : Ext [d, l] G' H' _ _ := (Ext.refl (X := [d, l]) e.gh).new (o := .lst (ns.map vI)) hp
  ⟨d, l, _, _, _, rfl, e0.gh, D.over ((Ext.refl (X := []) e.gh).new (o := .lst (ns.map vI)) hp), ⟨.ref p, ns, rfl, .lst (.of upd_same) (dpA_ints ns), h1, h9, rfl⟩, fun v G2 H2 e2 D2 ⟨x, hx, hv⟩ => by subst hv; exact q x hx G2 H2 (e.trans (e0.trans e2)) (e0.trans e2) D2⟩
theorem go_view {Q : VK} {Es : XK} {k : Nat} (e : Ext [d, l] G H G' H') (D : Deal d l G' H') (h1 : 2 ≤ k) (h9 : k ≤ 100)
    (q : ∀ v bs, Bits k bs → ∀ G2 H2, Ext [d, l] G H G2 H2 → Ext [d, l] G' H' G2 H2 → Deal d l G2 H2 → Ld K G2 v (bs.map eI) → Q v H2) : spView K [.ref d, vI k] H' Q Es :=
  ⟨d, l, G', _, _, rfl, e.gh, D, ⟨k, rfl, h1, h9, rfl⟩, fun v G2 H2 e2 D2 ⟨bs, hb, hv⟩ => q v bs hb G2 H2 (e.trans e2) e2 D2 hv⟩
theorem seq_hold {A B : TS} {D : Ends} {σ : L2.St} {H : Hp} (I : L2.St → Hp → Prop) (hB : ∀ σ H, I σ H → B D σ H) (hA : ∀ B' : TS, (∀ σ H, I σ H → B' D σ H) → tSeq A B' D σ H) : tSeq A B D σ H := hA B hB
theorem skip_if {t : TT} {A B : TS} {D : Ends} {σ : L2.St} {H : Hp} {n : Nat} {i j : Int} (hv : tVar n σ H (fun v H' => v = .int i ∧ H' = H)) (hij : i ≠ j) (h : D.nx σ H) : tIfS (tAnd (tTest (tOp rEq (tVar n) (tC (.int j)))) t) A (tIfS (tTest (tOp rEq (tVar n) (tC (.int j)))) B tNext) D σ H := by
  obtain ⟨v, hv, rfl, _⟩ := hv
  have hd : decide (V.int i = V.int j) = false := by rw [dec_int]; simpa using hij
  exact ⟨_, hv, rfl, _, rfl, iteFb hd (iteFb rfl ⟨_, hv, rfl, _, rfl, iteFb hd h⟩)⟩
theorem sh_LL (l : List (List Nat)) : SeqAt.shaped (eLL l) = true := by
  unfold SeqAt.shaped
  have h1 : (eLL l).canLay0 = true := by
    rw [PyData.canLay0]
    induction l with
    | nil => rfl
    | cons r l ih => rw [List.map_cons, PyData.canLayAll0, ih, SeqAt.canLay_of_shaped (sh_nats r)]; rfl
  have h2 : (eLL l).depth ≤ 2 := by
    rw [PyData.depth]
    exact Nat.succ_le_succ (dAll_le fun d hd => by
      obtain ⟨x, _, rfl⟩ := List.mem_map.mp hd
      rw [PyData.depth]
      exact Nat.succ_le_succ (dAll_le fun d hd => by
        obtain ⟨x, _, rfl⟩ := List.mem_map.mp hd
        simp [PyData.depth]))
  rw [h1, decide_eq_true (by omega)]; rfl
theorem eqv_LL_nil (l : List (List Nat)) : PyData.eqv (eLL l) (.list []) = decide (l = []) := by
  cases l with
  | nil => rfl
  | cons a l => simp [PyData.eqv, PyData.eqvAll]
theorem bits_any {k : Nat} (h : k = 2 ∨ k = 3) : ∃ bs, Bits k bs := by
  rcases h with rfl | rfl
  · exact ⟨[0, 1], rfl, by decide, by decide, by decide⟩
  · exact ⟨[0, 1, 1], rfl, by decide, by decide, by decide⟩
def spBuilt (K : PySem.W.Frag) : Sp := spD K fun G r Post => r = [vI 5] ∧ Post = fun G' v => ∃ (k : Nat) (rows : List (List Nat)) (f l st : Nat) (m : List Nat), BuiltP k rows f l st ∧ m.Perm (List.range rows.length) ∧ Dp K G' v (.tuple [eI k, eLL (renF m rows), .tuple [eI f, eI l, eI st]])
theorem sc_l_built : FnScope ["_law_deal", "_law_most", "_law_commands", "_law_steps_here", "_law_first_here", "_law_last_here", "_law_step", "_law_modulus", "_law_order", "_law_part"] ["_law_deal", "_law_most"] (defScope s_l_built) := ⟨rfl, rfl, rfl, by decide +kernel, rfl, by decide +kernel, by decide +kernel⟩
theorem ok_l_built (T : Txt K mg C) (F : HasD K mg "_law_built" s_l_built) (d_l_any : Def P w K mg base "_law_any" 1 ["_law_deal", "_law_bound"] (spAny K)) (d_l_of : Def P w K mg base "_law_of" 2 ["_law_deal", "_law_some"] (spOf K))
    (d_l_mixed : Def P w K mg base "_law_mixed" 2 ["_law_deal", "_law_some"] (spMixed K)) (d_l_view : Def P w K mg base "_law_view" 2 ["_law_deal", "_law_commands"] (spView K))
    (d_l_first : Def P w K mg base "_law_first" 1 ["_law_bits", "_law_first_here", "_law_base"] (spFirst K)) (d_l_last : Def P w K mg base "_law_last" 1 ["_law_bits", "_law_last_here", "_law_base"] (spLast K))
    (d_l_wheel : Def P w K mg base "_law_wheel" 1 ["_law_sums", "_law_step", "_law_modulus", "_law_base"] (spWheel K)) (d_l_named : Def P w K mg base "_law_named" 3 ["_law_deal", "_law_steps_here"] (spNamed K))
    (d_l_awaited : Def P w K mg base "_law_awaited" 3 ["_law_deal", "_law_commands", "_law_size"] (spAwaited K)) : Def P w K mg base "_law_built" 4 ["_law_deal", "_law_most"] (spBuilt K) := by
  refine mkDef F sc_l_built (fun _ _ _ _ _ _ us hl => match us, hl with | [_, _], _ => rfl) (fun vs H Q E h => ?_) fun f cdv A outer s H vs Q Es hr h => ?_
  · obtain ⟨d, l, G, r, Post, rfl, _, _, ⟨rfl, _⟩, _⟩ := h
    rfl
  · obtain ⟨d, l, G, r, Post, rfl, gh, D, ⟨rfl, rfl⟩, q⟩ := h
    refine ⟨_, (pss_cons (ps_par (i := 2) (j := 3) rfl sc_l_built.nd rfl rfl (by decide) rfl rfl (pa_cons (pe_def d_l_of (hr.mono (by decide)) (by rfl) (pa_cons (pv 0) (pa_cons (pe_lst (pa_cons pe_int (pa_cons pe_int (pa_cons pe_int (pa_cons pe_int pa_nil))))) pa_nil))) (pa_cons (pe_lst pa_nil) pa_nil)) (by rfl)) (pss_cons (ps_if (PW.pt (pw_and (pt_cmpR op_gt (pv 1) pe_int (nomark _)) (pw_and1 (pt_cmpR op_eq (pe_def d_l_any (hr.mono (by decide)) (by rfl) (pa_cons (pv 0) (pa_cons pe_int pa_nil))) pe_int (nomark _))))) (pss_one (ps_set (i := 3) sc_l_built.nd rfl (by first | exact Or.inl rfl | exact Or.inr rfl) (pe_def d_l_awaited (hr.mono (by decide)) (by rfl) (pa_cons (pv 0) (pa_cons (pv 2) (pa_cons (pe_callB (call_min2 rfl) (by rfl) T.f_min (by decide +kernel) (pa_cons (pe_op op_add pe_int (pe_def d_l_any (hr.mono (by decide)) (by rfl) (pa_cons (pv 0) (pa_cons pe_int pa_nil)))) (pa_cons (pe_op op_sub (pv 1) pe_int) pa_nil))) pa_nil)))))) pss_nil) (pss_cons (ps_par3 (i := 4) (j := 5) (l := 6) rfl sc_l_built.nd rfl rfl rfl (by decide) (by decide) (by decide) rfl rfl rfl (pa_cons (pe_def d_l_any (hr.mono (by decide)) (by rfl) (pa_cons (pv 0) (pa_cons pe_int pa_nil))) (pa_cons (pe_def d_l_any (hr.mono (by decide)) (by rfl) (pa_cons (pv 0) (pa_cons pe_int pa_nil))) (pa_cons (pe_def d_l_of (hr.mono (by decide)) (by rfl) (pa_cons (pv 0) (pa_cons (pe_lst (pa_cons pe_int (pa_cons pe_int (pa_cons pe_int (pa_cons pe_int (pa_cons pe_int (pa_cons pe_int pa_nil))))))) pa_nil))) pa_nil))) (by rfl)) (pss_cons (ps_set (i := 7) sc_l_built.nd rfl (by first | exact Or.inl rfl | exact Or.inr rfl) (pe_def d_l_of (hr.mono (by decide)) (by rfl) (pa_cons (pv 0) (pa_cons (pe_ifExp (pt_cmpR op_lt (pv 6) pe_int (nomark _)) (pe_lst (pa_cons pe_int (pa_cons pe_int (pa_cons pe_int pa_nil)))) (pe_lst (pa_cons pe_int pa_nil))) pa_nil)))) (pss_cons (ps_set (i := 8) sc_l_built.nd rfl (by first | exact Or.inl rfl | exact Or.inr rfl) (pe_def d_l_mixed (hr.mono (by decide)) (by rfl) (pa_cons (pv 0) (pa_cons (pe_lst (pa_cons pe_int (pa_cons pe_int (pa_cons pe_int pa_nil)))) pa_nil)))) (pss_cons (ps_for PassesOwn.never rfl (piL K (pv 8)) (pg_name (i := 9) sc_l_built.nd rfl (by first | exact Or.inl rfl | exact Or.inr rfl)) (pss_cons (ps_if (PW.pt (pw_and (pt_cmpR op_eq (pv 9) pe_int (nomark _)) (pw_and (pt_cmpR op_gt (pv 4) pe_int (nomark _)) (pw_and1 (pt_cmpR op_le (pe_op op_add (pe_op op_add (pe_callB (lenS K) (by rfl) T.f_len (by decide +kernel) (pa_cons (pv 3) pa_nil)) (pv 4)) pe_int) (pv 1) (nomark _)))))) (pss_one (ps_set (i := 3) sc_l_built.nd rfl (by first | exact Or.inl rfl | exact Or.inr rfl) (pe_op op_cat (pv 3) (pe_def d_l_first (hr.mono (by decide)) (by rfl) (pa_cons (pe_def d_l_view (hr.mono (by decide)) (by rfl) (pa_cons (pv 0) (pa_cons (pv 2) pa_nil))) (pa_cons (pv 4) (pa_cons (pe_callB (lenS K) (by rfl) T.f_len (by decide +kernel) (pa_cons (pv 3) pa_nil)) pa_nil))))))) (pss_one (ps_if (pt_cmpR op_eq (pv 9) pe_int (nomark _)) (pss_one (ps_set (i := 4) sc_l_built.nd rfl (by first | exact Or.inl rfl | exact Or.inr rfl) pe_int)) pss_nil))) (pss_cons (ps_if (PW.pt (pw_and (pt_cmpR op_eq (pv 9) pe_int (nomark _)) (pw_and (pt_cmpR op_gt (pv 5) pe_int (nomark _)) (pw_and1 (pt_cmpR op_le (pe_op op_add (pe_callB (lenS K) (by rfl) T.f_len (by decide +kernel) (pa_cons (pv 3) pa_nil)) (pe_op op_mul pe_int (pv 5))) (pv 1) (nomark _)))))) (pss_one (ps_set (i := 3) sc_l_built.nd rfl (by first | exact Or.inl rfl | exact Or.inr rfl) (pe_op op_cat (pv 3) (pe_def d_l_last (hr.mono (by decide)) (by rfl) (pa_cons (pe_def d_l_view (hr.mono (by decide)) (by rfl) (pa_cons (pv 0) (pa_cons (pv 2) pa_nil))) (pa_cons (pv 5) (pa_cons (pe_callB (lenS K) (by rfl) T.f_len (by decide +kernel) (pa_cons (pv 3) pa_nil)) pa_nil))))))) (pss_one (ps_if (pt_cmpR op_eq (pv 9) pe_int (nomark _)) (pss_one (ps_set (i := 5) sc_l_built.nd rfl (by first | exact Or.inl rfl | exact Or.inr rfl) pe_int)) pss_nil))) (pss_one (ps_if (PW.pt (pw_and (pt_cmpR op_eq (pv 9) pe_int (nomark _)) (pw_and1 (pt_cmpR op_le (pe_op op_add (pe_callB (lenS K) (by rfl) T.f_len (by decide +kernel) (pa_cons (pv 3) pa_nil)) (pe_op op_mul (pv 6) (pv 7))) (pv 1) (nomark _))))) (pss_one (ps_set (i := 3) sc_l_built.nd rfl (by first | exact Or.inl rfl | exact Or.inr rfl) (pe_op op_cat (pv 3) (pe_def d_l_wheel (hr.mono (by decide)) (by rfl) (pa_cons (pe_def d_l_view (hr.mono (by decide)) (by rfl) (pa_cons (pv 0) (pa_cons (pv 2) pa_nil))) (pa_cons (pv 6) (pa_cons (pv 7) (pa_cons (pe_callB (lenS K) (by rfl) T.f_len (by decide +kernel) (pa_cons (pv 3) pa_nil)) pa_nil)))))))) (pss_one (ps_if (pt_cmpR op_eq (pv 9) pe_int (nomark _)) (pss_one (ps_set (i := 6) sc_l_built.nd rfl (by first | exact Or.inl rfl | exact Or.inr rfl) pe_int)) pss_nil))))))) (pss_cons (ps_if (pt_cmpR (eqD K (hu64 hr)) (pv 3) (pe_lst pa_nil) (nomark _)) (pss_one (ps_set (i := 3) sc_l_built.nd rfl (by first | exact Or.inl rfl | exact Or.inr rfl) (pe_lst (pa_cons (pe_op op_rep (pe_lst (pa_cons pe_int pa_nil)) (pv 2)) pa_nil)))) pss_nil) (pss_one (ps_ret (pe_tup (pa_cons (pv 2) (pa_cons (pe_def d_l_named (hr.mono (by decide)) (by rfl) (pa_cons (pv 0) (pa_cons (pv 3) pa_nil))) (pa_cons (pe_tup (pa_cons (pv 4) (pa_cons (pv 5) (pa_cons (pv 6) pa_nil)))) pa_nil))))))))))))), ?_⟩
    refine ⟨_, rfl, by show 4 ≤ sizeLine; decide, fun p0 hp0 => ?_⟩
    refine go_of (K := K) (Es := Es) (ns := [2, 2, 2, 3]) (Ext.refl gh) D hp0 (by simp) (by simp) fun k hk G1 H1 e1 _ D1 => ?_
    have hk23 : k = 2 ∨ k = 3 := by simp at hk; omega
    refine ⟨by show 0 ≤ sizeLine; decide, fun R hR => ⟨_, _, rfl, ?_⟩⟩
    have e2 := e1.new (o := .lst []) hR
    have D2 := D1.over ((Ext.refl (X := []) e1.gh).new (o := .lst []) hR)
    have d2 : Ld K (upd G1 R (.lst [])) (.ref R) (([] : List (List Nat)).map eL) := ⟨R, [], rfl, upd_same, .nil⟩
    generalize upd G1 R (.lst []) = G2 at e2 D2 d2
    generalize upd H1 R (.lst []) = H2 at e2 D2 ⊢
    -- what follows the awaited rows
    -- the awaited rows
    dsimp only
    refine seq_hold (fun σ H' => ∃ (r0 : List (List Nat)) (rv : V) (G' : Hp), (r0 = [] ∨ ∃ cs : List Nat, (cs.length = 2 ∨ cs.length = 3) ∧ (∀ c ∈ cs, c < k) ∧ r0 = awaitF k cs.length cs) ∧ Ext [d, l] G H G' H' ∧ Deal d l G' H' ∧ Ld K G' rv (r0.map eL) ∧ σ = [some (.ref d), some (.int 5), some (vI k), some rv, none, none, none, none, none, none]) ?_ ?_
    rotate_left
    · intro B' hB'
      have none_ : ∀ {G3 H3 : Hp}, Ext [d, l] G H G3 H3 → Ext [d, l] G2 H2 G3 H3 → Deal d l G3 H3 → B' _ _ H3 := fun {G3 H3} e3 e23 D3 => hB' _ _ ⟨[], .ref R, G3, .inl rfl, e3, D3, ld_up e23.gg d2, rfl⟩
      refine ⟨_, rfl, 5, 3, rfl, rfl, _, rfl, iteTb rfl ⟨_, rfl, ?_⟩⟩
      refine go_any (K := K) (Es := Es) (n := 4) e2 D2 (by decide) (by decide) fun x hx G3 H3 e3 e23 D3 => ?_
      refine ⟨rfl, _, rfl, ?_⟩
      by_cases hx0 : x = 0
      · subst hx0
        refine iteTb rfl ⟨_, rfl, _, rfl, _, rfl, ?_⟩
        refine go_any (K := K) (Es := Es) (n := 3) e3 D3 (by decide) (by decide) fun y hy G4 H4 e4 e34 D4 => ?_
        refine ⟨_, _, rfl, rfl, _, rfl, _, _, rfl, rfl, _, _, rfl, ?_⟩
        dsimp only [tNil]
        have hsz : ∃ sz : Nat, (sz = 2 ∨ sz = 3) ∧ (V.int (if (5 : Int) - 2 < 2 + (y : Int) then (5 : Int) - 2 else 2 + (y : Int))) = vI sz := by
          have : y = 0 ∨ y = 1 ∨ y = 2 := by omega
          rcases this with rfl | rfl | rfl
          · exact ⟨2, .inl rfl, rfl⟩
          · exact ⟨3, .inr rfl, rfl⟩
          · exact ⟨3, .inr rfl, rfl⟩
        obtain ⟨sz, hsz, hv⟩ := hsz
        have hv2 : ∀ (Q : VK) (Es : XK), spAwaited K [.ref d, vI k, vI sz] H4 Q Es → spAwaited K [.ref d, vI k, V.int (if (5 : Int) - 2 < 2 + (y : Int) then (5 : Int) - 2 else 2 + (y : Int))] H4 Q Es := fun Q Es h => by rw [hv]; exact h
        refine hv2 _ _ ⟨d, l, G4, _, _, rfl, e4.gh, D4, ⟨k, sz, rfl, by omega, by omega, by omega, rfl⟩, fun v G5 H5 e5 D5 ⟨cs, hc1, hc2, dv⟩ => hB' _ _ ⟨_, v, G5, .inr ⟨cs, by omega, hc2, rfl⟩, e4.trans e5, D5, by rw [hc1]; exact dv, rfl⟩⟩
      · refine iteFb ?_ (none_ e3 e23 D3)
        rw [dec_int]; simpa using hx0
    rintro σ H3 ⟨r0, rv, G3, hr0, e3, D3, d3, rfl⟩
    -- three numbers
    refine ⟨_, rfl, go_any (K := K) (Es := Es) (n := 4) e3 D3 (by decide) (by decide) fun f0 hf0 G4 H4 e4 e34 D4 => ⟨_, rfl, go_any (K := K) (Es := Es) (n := 3) e4 D4 (by decide) (by decide) fun l0 hl0 G5 H5 e5 e45 D5 => ⟨_, rfl, by show 6 ≤ sizeLine; decide, fun p6 hp6 => ?_⟩⟩⟩
    refine go_of (K := K) (Es := Es) (ns := [1, 1, 2, 2, 3, 4]) e5 D5 hp6 (by simp) (by simp) fun s0 hs0 G6 H6 e6 e56 D6 => ?_
    have d6 := ld_up (e34.gg.trans (e45.gg.trans e56.gg)) d3
    clear d3
    have hs04 : 1 ≤ s0 ∧ s0 ≤ 4 := by simp at hs0; omega
    refine ⟨_, _, _, rfl, ?_⟩
    dsimp only
    refine seq_hold (fun σ H' => ∃ (m : Nat) (G' : Hp), m ∈ (if s0 < 3 then [2, 2, 3] else [2]) ∧ Ext [d, l] G H G' H' ∧ Ext [d, l] G6 H6 G' H' ∧ Deal d l G' H' ∧ σ = [some (.ref d), some (.int 5), some (vI k), some rv, some (vI f0), some (vI l0), some (vI s0), some (vI m), none, none]) ?_ ?_
    rotate_left
    · intro B' hB'
      refine ⟨_, rfl, _, rfl, s0, 3, rfl, rfl, _, rfl, ?_⟩
      by_cases hs3 : s0 < 3
      · rw [if_pos hs3] at hB'
        refine iteTb (decide_eq_true (by omega)) ⟨by show 3 ≤ sizeLine; decide, fun p hp => ?_⟩
        exact go_of (K := K) (Es := Es) (ns := [2, 2, 3]) e6 D6 hp (by simp) (by simp) fun m hm G7 H7 e7 e67 D7 => hB' _ _ ⟨m, G7, hm, e7, e67, D7, rfl⟩
      · rw [if_neg hs3] at hB'
        refine iteFb (decide_eq_false (by omega)) ⟨by show 1 ≤ sizeLine; decide, fun p hp => ?_⟩
        exact go_of (K := K) (Es := Es) (ns := [2]) e6 D6 hp (by simp) (by simp) fun m hm G7 H7 e7 e67 D7 => hB' _ _ ⟨m, G7, hm, e7, e67, D7, rfl⟩
    rintro σ H7 ⟨m, G7, hm, e7, e67, D7, rfl⟩
    have d7 := ld_up e67.gg d6
    have hm23 : m = 2 ∨ m = 3 := by
      split at hm
      · simp at hm; omega
      · simp at hm; omega
    -- the order
    refine ⟨_, rfl, by show 3 ≤ sizeLine; decide, fun p hp => ?_⟩
    have eo := (Ext.refl (X := []) e7.gh).new (o := .lst [.int 0, .int 1, .int 2]) hp
    have dord : Dp K (upd G7 p (.lst [.int 0, .int 1, .int 2])) (.ref p) (eL [0, 1, 2]) := .lst (.of upd_same) (dpA_ints [0, 1, 2])
    refine ⟨d, l, _, _, _, rfl, eo.gh, D7.over eo, ⟨.ref p, [0, 1, 2], rfl, dord, by simp, rfl⟩, fun ov G8 H8 e8 D8 ⟨ord, hord, dov⟩ => ?_⟩
    have e78 := (eo.dl (d := d) (l := l)).trans e8
    have e08 := e7.trans e78
    have d8 := ld_up e78.gg d7
    obtain ⟨oa, ox, rfl, ho1, ho2⟩ := dov
    have hox := dpAll_ints ho2
    subst hox
    have hol := hord.length_eq
    have hom : ∀ p ∈ ord, p = 0 ∨ p = 1 ∨ p = 2 := fun p hp => by
      have := hord.mem_iff.mp hp
      simp at this; omega
    dsimp only
    have hst0 : StOk k m (r0, f0, l0, s0) := by
      refine ⟨?_, by show f0 ≤ 3; omega, by show l0 ≤ 2; omega, hs04.1, hs04.2⟩
      rcases hr0 with rfl | ⟨cs, h1, h2, rfl⟩
      · exact ⟨by simp, fun r hr => by cases hr⟩
      · exact awaitF_ok (by omega)
    obtain ⟨bs0, hbs0⟩ := bits_any hk23
    refine ⟨_, rfl, oa, rfl, ⟨_, e8.gh.seq (.of ho1)⟩, for_it (walk_list (K := K) (a := oa) (xs := ord.map vI)) (fun i σ H' => ∃ (G' : Hp) (rv : V) (v9 : Option V) (o : List (Nat × List Nat)) (rs : List (List Nat)) (f l' st : Nat), Ext [d, l] G H G' H' ∧ L2.Same G8 G' ∧ Deal d l G' H' ∧ Ld K G' rv (rs.map eL) ∧ o.map (·.1) = ord.take i ∧ (∀ p ∈ o, Bits k p.2) ∧ o.foldl (bPart m) (r0, f0, l0, s0) = (rs, f, l', st) ∧ StOk k m (rs, f, l', st) ∧
      σ = [some (.ref d), some (.int 5), some (vI k), some rv, some (vI f), some (vI l'), some (vI st), some (vI m), some (.ref oa), v9])
      ⟨G8, rv, none, [], r0, f0, l0, s0, e08, L2.Same.refl _, D8, d8, rfl, fun p hp => (by cases hp), rfl, hst0, rfl⟩ (fun i σ H' _ ⟨G', _, _, _, _, _, _, _, e, g, _⟩ => (g.trans e.gh).seq (.of ho1)) ?_ ?_⟩
    · rintro i pv σ H9 H10 hi ⟨G9, rv, v9, o, rs, f, l', st, e9, g9, D9, d9, ho, hob, hof, hst, rfl⟩ ⟨rfl, hpv⟩
      have hil : i < ord.length := by simpa using hi
      obtain rfl : pv = vI ord[i] := by simp [hil] at hpv; exact hpv.symm
      have hp012 := hom _ (List.getElem_mem hil)
      -- a turn's end
      have fin : ∀ (bs : List Nat) (G' H' : Hp) (rv' : V) (x : BSt), Bits k bs → Ext [d, l] G H G' H' → L2.Same G8 G' → Deal d l G' H' → Ld K G' rv' (x.1.map eL) → bPart m (rs, f, l', st) (ord[i], bs) = x →
          ∃ (G' : Hp) (rv : V) (v9 : Option V) (o : List (Nat × List Nat)) (rs : List (List Nat)) (f l'' st : Nat), Ext [d, l] G H G' H' ∧ L2.Same G8 G' ∧ Deal d l G' H' ∧ Ld K G' rv (rs.map eL) ∧ o.map (·.1) = ord.take (i + 1) ∧ (∀ p ∈ o, Bits k p.2) ∧ o.foldl (bPart m) (r0, f0, l0, s0) = (rs, f, l'', st) ∧ StOk k m (rs, f, l'', st) ∧
      [some (V.ref d), some (V.int 5), some (vI k), some rv', some (vI x.2.1), some (vI x.2.2.1), some (vI x.2.2.2), some (vI m), some (V.ref oa), some (vI ord[i])] = [some (.ref d), some (.int 5), some (vI k), some rv, some (vI f), some (vI l''), some (vI st), some (vI m), some (.ref oa), v9] := by
        intro bs G' H' rv' x hb e g D dd hx
        refine ⟨G', rv', _, o ++ [(ord[i], bs)], x.1, x.2.1, x.2.2.1, x.2.2.2, e, g, D, dd, ?_, ?_, ?_, ?_, rfl⟩
        · rw [List.map_append, ho, List.take_succ_eq_append_getElem hil]; rfl
        · intro p hp
          rcases List.mem_append.mp hp with hp | hp
          · exact hob p hp
          · rw [List.mem_singleton.mp hp]; exact hb
        · rw [List.foldl_append, hof]; exact hx
        · have := bPart_ok (p := (ord[i], bs)) (by omega : 1 ≤ m) hb hst
          rw [hx] at this
          exact this
      clear hpv
      generalize ord[i] = p at hp012 fin ⊢
      obtain ⟨ra, rx, rfl, hr1, hr2⟩ := d9
      have hrl := dpA_len hr2
      rw [List.length_map] at hrl
      obtain ⟨hro, hf3, hl2, hs1, hs4⟩ := hst
      have hrs5 : rs.length ≤ 5 := hro.1
      dsimp only at hf3 hl2 hs1 hs4
      -- the rows and some more
      have cat : ∀ {G' H' : Hp} {v : V} {more : List (List Nat)} {Q' : VK}, Ext [d, l] G H G' H' → L2.Same G9 G' → L2.Same G8 G' → Deal d l G' H' → Ld K G' v (more.map eL) → more.length ≤ 100 → (∀ (G2 H2 : Hp) (rv' : V), Ext [d, l] G H G2 H2 → L2.Same G8 G2 → Deal d l G2 H2 → Ld K G2 rv' ((rs ++ more).map eL) → Q' rv' H2) → rCat (.ref ra) v H' Q' := by
        intro G' H' v more Q' e g9' g8' D dv hml q'
        obtain ⟨ma, mx, rfl, hm1, hm2⟩ := dv
        have hmxl := dpA_len hm2
        rw [List.length_map] at hmxl
        refine ⟨ra, ma, rx, mx, rfl, rfl, (g9'.trans e.gh) _ _ hr1, e.gh _ _ hm1, Nat.le_trans (show rx.length + mx.length ≤ 1000 by omega) (by decide), fun p8 hp8 => ?_⟩
        have e1 := (Ext.refl (X := []) e.gh).new (o := .lst (rx ++ mx)) hp8
        refine q' _ _ _ (e.trans e1.dl) (g8'.trans e1.gg) (D.over e1) ⟨p8, _, rfl, upd_same, ?_⟩
        rw [List.map_append]
        exact dpA_app (dpA_up (g9'.trans e1.gg) hr2) (dpA_up e1.gg hm2)
      rcases hp012 with rfl | rfl | rfl
      · -- the first part
        refine seq_hold (fun σ H' => ∃ (bs : List Nat) (G' : Hp) (rv' : V) (x : BSt), Bits k bs ∧ Ext [d, l] G H G' H' ∧ L2.Same G8 G' ∧ Deal d l G' H' ∧ Ld K G' rv' (x.1.map eL) ∧ bPart m (rs, f, l', st) (0, bs) = x ∧ σ = [some (V.ref d), some (V.int 5), some (vI k), some rv', some (vI x.2.1), some (vI x.2.2.1), some (vI x.2.2.2), some (vI m), some (V.ref oa), some (vI 0)]) ?_ ?_
        · rintro σ H11 ⟨bs, G11, rv', x, hb, e, g, D, dd, hx, rfl⟩
          exact skip_if ⟨_, rfl, rfl, rfl⟩ (by decide) (skip_if ⟨_, rfl, rfl, rfl⟩ (by decide) (fin bs G11 H11 rv' x hb e g D dd hx))
        · intro B' hB'
          have no : ¬(0 < f ∧ rs.length + f + 2 ≤ 5) → B' _ _ H10 := fun z => hB' _ _ ⟨bs0, G9, .ref ra, (rs, 0, l', st), hbs0, e9, g9, D9, ⟨ra, rx, rfl, hr1, hr2⟩, by unfold bPart; rw [if_pos rfl, if_neg z], rfl⟩
          refine ⟨_, rfl, rfl, _, rfl, iteTb rfl ⟨_, rfl, _, _, rfl, rfl, _, rfl, ?_⟩⟩
          by_cases hf0 : 0 < f
          · refine iteTb (decide_eq_true (by omega)) ⟨_, rfl, ra, rx, rfl, .inl (.of (e9.gh _ _ hr1)), _, rfl, _, _, rfl, rfl, _, _, rfl, rfl, _, rfl, _, _, rfl, rfl, _, rfl, ?_⟩
            by_cases hfit : rs.length + f + 2 ≤ 5
            · refine iteTb (decide_eq_true (by omega)) ⟨_, rfl, _, rfl, _, rfl, ?_⟩
              refine go_view (K := K) (Es := Es) e9 D9 (by omega) (by omega) fun bv bs hb G11 H11 e11 e911 D11 dbv => ⟨_, rfl, _, rfl, ra, rx, rfl, .inl (.of ((e911.gg.trans e11.gh) _ _ hr1)), ?_⟩
              dsimp only [tNil]
              refine ⟨G11, _, e11.gh, ⟨bv, bs, f, rx.length, rfl, ld_dp dbv, by rw [hb.len]; omega, hf0, by omega, by omega, rfl⟩, fun fv G12 H12 e12 dfv => ?_⟩
              rw [hrl] at dfv
              refine cat (e11.trans e12.dl) (e911.gg.trans e12.gg) (g9.trans (e911.gg.trans e12.gg)) (D11.over e12) dfv (by rw [firstF_len _ _ hf0]; omega) fun G13 H13 rv' e13 g13 D13 d13 => ?_
              exact hB' _ _ ⟨bs, G13, rv', (rs ++ firstF bs f rs.length, f, l', st), hb, e13, g13, D13, d13, by unfold bPart; rw [if_pos rfl, if_pos ⟨hf0, hfit⟩], rfl⟩
            · exact iteFb (decide_eq_false (by omega)) ⟨_, rfl, rfl, _, rfl, iteTb rfl (no fun z => hfit z.2)⟩
          · exact iteFb (decide_eq_false (by omega)) (iteFb rfl ⟨_, rfl, rfl, _, rfl, iteTb rfl (no fun z => hf0 z.1)⟩)
      · -- the last part
        refine skip_if ⟨_, rfl, rfl, rfl⟩ (by decide) ?_
        dsimp only
        refine seq_hold (fun σ H' => ∃ (bs : List Nat) (G' : Hp) (rv' : V) (x : BSt), Bits k bs ∧ Ext [d, l] G H G' H' ∧ L2.Same G8 G' ∧ Deal d l G' H' ∧ Ld K G' rv' (x.1.map eL) ∧ bPart m (rs, f, l', st) (1, bs) = x ∧ σ = [some (V.ref d), some (V.int 5), some (vI k), some rv', some (vI x.2.1), some (vI x.2.2.1), some (vI x.2.2.2), some (vI m), some (V.ref oa), some (vI 1)]) ?_ ?_
        · rintro σ H11 ⟨bs, G11, rv', x, hb, e, g, D, dd, hx, rfl⟩
          exact skip_if ⟨_, rfl, rfl, rfl⟩ (by decide) (fin bs G11 H11 rv' x hb e g D dd hx)
        · intro B' hB'
          have no : ¬(0 < l' ∧ rs.length + 2 * l' ≤ 5) → B' _ _ H10 := fun z => hB' _ _ ⟨bs0, G9, .ref ra, (rs, f, 0, st), hbs0, e9, g9, D9, ⟨ra, rx, rfl, hr1, hr2⟩, by unfold bPart; rw [if_neg (by simp), if_pos rfl, if_neg z], rfl⟩
          refine ⟨_, rfl, rfl, _, rfl, iteTb rfl ⟨_, rfl, _, _, rfl, rfl, _, rfl, ?_⟩⟩
          by_cases hl0 : 0 < l'
          · refine iteTb (decide_eq_true (by omega)) ⟨_, rfl, ra, rx, rfl, .inl (.of (e9.gh _ _ hr1)), _, rfl, _, _, rfl, rfl, .inl ⟨by decide, by decide⟩, _, _, rfl, rfl, _, rfl, _, _, rfl, rfl, _, rfl, ?_⟩
            by_cases hfit : rs.length + 2 * l' ≤ 5
            · refine iteTb (decide_eq_true (by omega)) ⟨_, rfl, _, rfl, _, rfl, ?_⟩
              refine go_view (K := K) (Es := Es) e9 D9 (by omega) (by omega) fun bv bs hb G11 H11 e11 e911 D11 dbv => ⟨_, rfl, _, rfl, ra, rx, rfl, .inl (.of ((e911.gg.trans e11.gh) _ _ hr1)), ?_⟩
              dsimp only [tNil]
              refine ⟨G11, _, e11.gh, ⟨bv, bs, l', rx.length, rfl, ld_dp dbv, by rw [hb.len]; omega, by omega, by omega, rfl⟩, fun fv G12 H12 e12 dfv => ?_⟩
              rw [hrl] at dfv
              have h2l : 2 ^ l' ≤ 4 := Nat.le_trans (Nat.pow_le_pow_right (by decide) hl2) (by decide)
              refine cat (e11.trans e12.dl) (e911.gg.trans e12.gg) (g9.trans (e911.gg.trans e12.gg)) (D11.over e12) dfv (by rw [lastF_len]; omega) fun G13 H13 rv' e13 g13 D13 d13 => ?_
              exact hB' _ _ ⟨bs, G13, rv', (rs ++ lastF bs l' rs.length, f, l', st), hb, e13, g13, D13, d13, by unfold bPart; rw [if_neg (by simp), if_pos rfl, if_pos ⟨hl0, hfit⟩], rfl⟩
            · exact iteFb (decide_eq_false (by omega)) ⟨_, rfl, rfl, _, rfl, iteTb rfl (no fun z => hfit z.2)⟩
          · exact iteFb (decide_eq_false (by omega)) (iteFb rfl ⟨_, rfl, rfl, _, rfl, iteTb rfl (no fun z => hl0 z.1)⟩)
      · -- the wheel
        refine skip_if ⟨_, rfl, rfl, rfl⟩ (by decide) (skip_if ⟨_, rfl, rfl, rfl⟩ (by decide) ?_)
        refine ⟨_, rfl, rfl, _, rfl, iteTb rfl ⟨_, rfl, ra, rx, rfl, .inl (.of (e9.gh _ _ hr1)), _, rfl, _, rfl, _, _, rfl, rfl, .inl ⟨by omega, by omega⟩, _, _, rfl, rfl, _, rfl, _, _, rfl, rfl, _, rfl, ?_⟩⟩
        have hle : ((rx.length : Int) + (st : Int) * (m : Int) ≤ 5) ↔ rs.length + st * m ≤ 5 := by
          rw [hrl, ← Int.natCast_mul]; omega
        by_cases hfit : rs.length + st * m ≤ 5
        · refine iteTb (decide_eq_true (hle.mpr hfit)) ⟨_, rfl, _, rfl, _, rfl, ?_⟩
          refine go_view (K := K) (Es := Es) e9 D9 (by omega) (by omega) fun bv bs hb G11 H11 e11 e911 D11 dbv => ⟨_, rfl, _, rfl, _, rfl, ra, rx, rfl, .inl (.of ((e911.gg.trans e11.gh) _ _ hr1)), ?_⟩
          dsimp only [tNil]
          refine ⟨G11, _, e11.gh, ⟨bv, bs, st, m, rx.length, rfl, ld_dp dbv, by rw [hb.len]; omega, by omega, by omega, by omega, by omega, by omega, rfl⟩, fun fv G12 H12 e12 dfv => ?_⟩
          rw [hrl] at dfv
          refine cat (e11.trans e12.dl) (e911.gg.trans e12.gg) (g9.trans (e911.gg.trans e12.gg)) (D11.over e12) dfv (by rw [wheelF_len]; omega) fun G13 H13 rv' e13 g13 D13 d13 => ?_
          exact fin bs G13 H13 rv' (rs ++ wheelF bs st m rs.length, f, l', st) hb e13 g13 D13 d13 (by unfold bPart; rw [if_neg (by simp), if_neg (by simp), if_pos hfit])
        · exact iteFb (decide_eq_false fun z => hfit (hle.mp z)) ⟨_, rfl, rfl, _, rfl, iteTb rfl (fin bs0 G9 H10 (.ref ra) (rs, f, l', 1) hbs0 e9 g9 D9 ⟨ra, rx, rfl, hr1, hr2⟩ (by unfold bPart; rw [if_neg (by simp), if_neg (by simp), if_neg hfit]))⟩
    · rintro σ H9 ⟨G9, rv, v9, o, rs, f, l', st, e9, g9, D9, d9, ho, hob, hof, hst, rfl⟩
      rw [List.length_map, List.take_length] at ho
      have hbp : ∀ rows : List (List Nat), rows = (if rs = [] then [List.replicate k 0] else rs) → BuiltP k rows f l' st := fun rows hrows => ⟨r0, f0, l0, s0, m, o, rs, hk23, hr0, by omega, by omega, hs0, hm, by rw [ho]; exact hord, hob, hof, hrows⟩
      obtain ⟨ra, rx, rfl, hr1, hr2⟩ := d9
      obtain ⟨hro, _⟩ := hst
      dsimp only
      refine seq_hold (fun σ H' => ∃ (G' : Hp) (rv : V) (rows : List (List Nat)), Ext [d, l] G H G' H' ∧ Deal d l G' H' ∧ Dp K G' rv (eLL rows) ∧ RowsOk k rows ∧ BuiltP k rows f l' st ∧ σ = [some (.ref d), some (.int 5), some (vI k), some rv, some (vI f), some (vI l'), some (vI st), some (vI m), some (.ref oa), v9]) ?_ ?_
      · rintro σ H10 ⟨G10, rv, rows, e10, D10, d10, hrow, hbu, rfl⟩
        refine ⟨_, rfl, _, rfl, _, rfl, ?_⟩
        refine ⟨d, l, G10, _, _, rfl, e10.gh, D10, ⟨rv, rows, rfl, d10, fun r hr => (hrow.2 r hr).2, fun r hr => by rw [(hrow.2 r hr).1]; omega, by have := hrow.1; omega, rfl⟩, fun nv G11 H11 e11 D11 ⟨mm, hmm, dn⟩ => ⟨_, rfl, _, rfl, _, rfl, by show 3 ≤ sizeLine; decide, fun t ht => ⟨by show 3 ≤ sizeLine; decide, fun t2 ht2 => ?_⟩⟩⟩
        have e12 := (Ext.refl (X := []) e11.gh).new (o := .tup [vI f, vI l', vI st]) ht
        have d12 : Dp K (upd G11 t (.tup [vI f, vI l', vI st])) (.ref t) (.tuple [eI f, eI l', eI st]) := .tup (.of upd_same) (.cons (.int _) (.cons (.int _) (.cons (.int _) .nil)))
        have e13 := e12.new (o := .tup [vI k, nv, .ref t]) ht2
        have g13 := gup1 (o := .tup [vI k, nv, .ref t]) e12.gh ht2
        refine q _ _ _ ((e10.trans e11).trans e13.dl) (D11.over e13) ⟨k, rows, f, l', st, mm, hbu, hmm, .tup (.of upd_same) (.cons (.int _) (.cons (dp_up (e12.gg.trans g13) (ld_dp dn)) (.cons (dp_up g13 d12) .nil)))⟩
      · intro B' hB'
        refine ⟨_, rfl, by show 0 ≤ sizeLine; decide, fun p hp => ?_⟩
        have e10 := e9.trans ((Ext.refl (X := []) e9.gh).newM (o := .lst []) hp).dl
        have D10 := D9.over ((Ext.refl (X := []) e9.gh).newM (o := .lst []) hp)
        have dr : Dp K G9 (.ref ra) (eLL rs) := .lst (.of hr1) hr2
        refine ⟨eLL rs, .list [], dp_up e10.gh dr, .lst (.of upd_same) .nil, sh_LL rs, rfl, _, rfl, ?_⟩
        rw [eqv_LL_nil]
        generalize upd H9 p (.lst []) = H10 at e10 D10 ⊢
        by_cases hrs : rs = []
        · refine iteTb (by simp [hrs]) ⟨by show 1 ≤ sizeLine; decide, fun p1 hp1 => ⟨_, rfl, p1, (k : Int), _, rfl, rfl, upd_same, by omega, by omega, by rw [Int.toNat_natCast]; exact Nat.le_trans (Nat.mul_le_mul_left 1 (show k ≤ 100 by omega)) (by decide), fun p2 hp2 => ⟨by show 1 ≤ sizeLine; decide, fun p3 hp3 => ?_⟩⟩⟩
          dsimp only at hp2 hp3 ⊢
          rw [Int.toNat_natCast, rep_flat] at *
          have e11 := (Ext.refl (X := []) e10.gh).new (o := .lst [V.int 0]) hp1
          have e12 := e11.new (o := .lst (List.replicate k (V.int 0))) hp2
          have d12 : Dp K (upd (upd G9 p1 (.lst [V.int 0])) p2 (.lst (List.replicate k (V.int 0)))) (.ref p2) (eL (List.replicate k 0)) := .lst (.of upd_same) (dpA_rep k 0)
          have e13 := e12.new (o := .lst [.ref p2]) hp3
          have d13 : Dp K (upd (upd (upd G9 p1 (.lst [V.int 0])) p2 (.lst (List.replicate k (V.int 0)))) p3 (.lst [.ref p2])) (.ref p3) (eLL [List.replicate k 0]) := .lst (.of upd_same) (.cons (dp_up (gup1 e12.gh hp3) d12) .nil)
          exact hB' _ _ ⟨_, .ref p3, [List.replicate k 0], e10.trans e13.dl, D10.over e13, d13, ⟨by simp, fun r hr => by
            rw [List.mem_singleton.mp hr]
            exact ⟨by simp, fun s hs => by rw [List.eq_of_mem_replicate hs]; simp⟩⟩, hbp _ (by rw [if_pos hrs]), rfl⟩
        · exact iteFb (by simp [hrs]) (hB' _ _ ⟨G9, .ref ra, rs, e10, D10, dr, hro, hbp _ (by rw [if_neg hrs]), rfl⟩)
end
end K78

/-! text L16 -/
set_option Elab.async false
set_option linter.all false
set_option maxRecDepth 100000
set_option maxHeartbeats 4000000
namespace K78
open PySem PySem.Spec PyProof.Rows L2
/-- the rows of columns -/
def colF (n : Nat) (cols : List (List Nat)) : List (List Nat) := (List.range n).map fun s => cols.map fun c => c.getD s 0
section
variable {P : Program} {w : World} {K : PySem.W.Frag} {mg : Str → Option Value} {base : Heap} {C : Addr} {G H G' H' : Hp} {d l : Addr}
def ColOk (n : Nat) (col : List Nat) : Prop := col.length = n ∧ ∀ s ∈ col, s < n
def spMachine (K : PySem.W.Frag) : Sp := spD K fun G r Post => r = [vI 3] ∧ Post = fun G' v => ∃ (k n : Nat) (cols : List (List Nat)), 1 ≤ k ∧ k ≤ 5 ∧ 1 ≤ n ∧ n ≤ 3 ∧ cols.length = k ∧ (∀ c ∈ cols, ColOk n c) ∧ Dp K G' v (.tuple [eI k, eLL (colF n cols)])
theorem sc_l_machine : FnScope ["_law_deal", "_law_most", "_law_form", "_law_commands", "_law_steps_here", "_law_triple", "_law_many", "_law_columns", "_law_command", "_law_column", "_law_shift", "_law_state"] ["_law_deal", "_law_most"] (defScope s_l_machine) := ⟨rfl, rfl, rfl, by decide +kernel, rfl, by decide +kernel, by decide +kernel⟩
theorem ok_l_machine (T : Txt K mg C) (F : HasD K mg "_law_machine" s_l_machine) (d_l_any : Def P w K mg base "_law_any" 1 ["_law_deal", "_law_bound"] (spAny K)) (d_l_of : Def P w K mg base "_law_of" 2 ["_law_deal", "_law_some"] (spOf K))
    (d_l_mixed : Def P w K mg base "_law_mixed" 2 ["_law_deal", "_law_some"] (spMixed K)) (d_l_built : Def P w K mg base "_law_built" 4 ["_law_deal", "_law_most"] (spBuilt K)) : Def P w K mg base "_law_machine" 5 ["_law_deal", "_law_most"] (spMachine K) := by
  refine mkDef F sc_l_machine (fun _ _ _ _ _ _ us hl => match us, hl with | [_, _], _ => rfl) (fun vs H Q E h => ?_) fun f cdv A outer s H vs Q Es hr h => ?_
  · obtain ⟨d, l, G, r, Post, rfl, _, _, ⟨rfl, _⟩, _⟩ := h
    rfl
  · obtain ⟨d, l, G, r, Post, rfl, gh, D, ⟨rfl, rfl⟩, q⟩ := h
    refine ⟨_, (pss_cons (ps_set (i := 2) sc_l_machine.nd rfl (by first | exact Or.inl rfl | exact Or.inr rfl) (pe_def d_l_any (hr.mono (by decide)) (by rfl) (pa_cons (pv 0) (pa_cons pe_int pa_nil)))) (pss_cons (ps_if (PW.pt (pw_and (pt_cmpR op_lt (pv 2) pe_int (nomark _)) (pw_and1 (pt_cmpR op_gt (pv 1) pe_int (nomark _))))) (pss_cons (ps_asg (pe_def d_l_built (hr.mono (by decide)) (by rfl) (pa_cons (pv 0) (pa_cons (pv 1) pa_nil))) (pgT K (n := 3) (pgs_cons (pg_name (i := 3) sc_l_machine.nd rfl (by first | exact Or.inl rfl | exact Or.inr rfl)) (pgs_cons (pg_name (i := 4) sc_l_machine.nd rfl (by first | exact Or.inl rfl | exact Or.inr rfl)) (pgs_cons (pg_name (i := 5) sc_l_machine.nd rfl (by first | exact Or.inl rfl | exact Or.inr rfl)) pgs_nil))))) (pss_one (ps_ret (pe_tup (pa_cons (pv 3) (pa_cons (pv 4) pa_nil)))))) pss_nil) (pss_cons (ps_asg (pe_tup (pa_cons (pe_def d_l_of (hr.mono (by decide)) (by rfl) (pa_cons (pv 0) (pa_cons (pe_lst (pa_cons pe_int (pa_cons pe_int (pa_cons pe_int (pa_cons pe_int (pa_cons pe_int (pa_cons pe_int (pa_cons pe_int pa_nil)))))))) pa_nil))) (pa_cons (pe_op op_add pe_int (pe_def d_l_any (hr.mono (by decide)) (by rfl) (pa_cons (pv 0) (pa_cons (pv 1) pa_nil)))) (pa_cons (pe_lst pa_nil) pa_nil)))) (pgT K (n := 3) (pgs_cons (pg_name (i := 3) sc_l_machine.nd rfl (by first | exact Or.inl rfl | exact Or.inr rfl)) (pgs_cons (pg_name (i := 6) sc_l_machine.nd rfl (by first | exact Or.inl rfl | exact Or.inr rfl)) (pgs_cons (pg_name (i := 7) sc_l_machine.nd rfl (by first | exact Or.inl rfl | exact Or.inr rfl)) pgs_nil))))) (pss_cons (ps_for PassesOwn.never rfl (pi_range1 (by rfl) T.f_range (pa_cons (pv 3) pa_nil)) (pg_name (i := 8) sc_l_machine.nd rfl (by first | exact Or.inl rfl | exact Or.inr rfl)) (pss_cons (ps_setLc (i := 9) (own := [("_law_state", 11)]) rfl sc_l_machine.nd rfl rfl (sw_true rfl rfl rfl (by decide +kernel)) (pi_range1 (by rfl) T.f_range (pa_cons (pv 6) pa_nil)) (blkOk_by (own := [("_law_state", 11)]) (by kernel_rfl)) (fun _ _ _ _ _ => (pg_name (i := 11) sc_l_machine.nd rfl (by first | exact Or.inl rfl | exact Or.inr rfl))) (fun _ _ _ _ _ => pts_nil) (fun _ _ _ _ _ => (pe_def d_l_any (hr.mono (by decide)) (by rfl) (pa_cons (pv 0) (pa_cons (pv 6) pa_nil))))) (pss_cons (ps_if (pt_cmpR op_eq (pv 2) pe_int (nomark _)) (pss_one (ps_set (i := 9) sc_l_machine.nd rfl (by first | exact Or.inl rfl | exact Or.inr rfl) (pe_def d_l_mixed (hr.mono (by decide)) (by rfl) (pa_cons (pv 0) (pa_cons (pe_listRg rfl (by rfl) T.f_list (prg_1 (by rfl) T.f_range (pv 6))) pa_nil))))) pss_nil) (pss_cons (ps_if (pt_cmpR op_eq (pv 2) pe_int (nomark _)) (pss_cons (ps_set (i := 10) sc_l_machine.nd rfl (by first | exact Or.inl rfl | exact Or.inr rfl) (pe_def d_l_any (hr.mono (by decide)) (by rfl) (pa_cons (pv 0) (pa_cons (pv 6) pa_nil)))) (pss_one (ps_setLc (i := 9) (own := [("_law_state", 11)]) rfl sc_l_machine.nd rfl rfl (sw_true rfl rfl rfl (by decide +kernel)) (pi_range1 (by rfl) T.f_range (pa_cons (pv 6) pa_nil)) (blkOk_by (own := [("_law_state", 11)]) (by kernel_rfl)) (fun _ _ _ _ _ => (pg_name (i := 11) sc_l_machine.nd rfl (by first | exact Or.inl rfl | exact Or.inr rfl))) (fun _ _ _ _ _ => pts_nil) (fun _ _ _ _ _ => (pe_op op_modN (pe_callTy call_int1 (by rfl) T.f_int (by decide +kernel) (pa_cons (pe_op op_add (pv 11) (pv 10)) pa_nil)) (pv 6)))))) pss_nil) (pss_cons (ps_if (PW.pt (pw_and (pt_cmpR op_eq (pv 2) pe_int (nomark _)) (pw_and1 (pt_cmpR op_eq (pe_def d_l_any (hr.mono (by decide)) (by rfl) (pa_cons (pv 0) (pa_cons pe_int pa_nil))) pe_int (nomark _))))) (pss_one (ps_set (i := 9) sc_l_machine.nd rfl (by first | exact Or.inl rfl | exact Or.inr rfl) (pe_op op_rep (pe_lst (pa_cons (pe_ix (ixL K) (pv 9) pe_int (fun _ _ => rfl)) pa_nil)) (pv 6)))) pss_nil) (pss_one (ps_expr (pe_bm PySem.F.plainAttrs_list PySem.F.slot_list_append PySem.F.type_list_append mt_append (pv 7) (pa_cons (pv 9) pa_nil))))))))) (pss_one (ps_ret (pe_tup (pa_cons (pv 3) (pa_cons (pe_lc (own := [("_law_state", 11)]) rfl sc_l_machine.nd (pi_range1 (by rfl) T.f_range (pa_cons (pv 6) pa_nil)) (blkOk_by (own := [("_law_state", 11)]) (by kernel_rfl)) (fun _ _ _ _ _ => (pg_name (i := 11) sc_l_machine.nd rfl (by first | exact Or.inl rfl | exact Or.inr rfl))) (fun _ _ _ _ _ => pts_nil) (fun _ _ _ _ _ => (pe_lc (own := [("_law_column", 9)]) rfl sc_l_machine.nd (piL K (pv 7)) (blkOk_by (own := [("_law_column", 9)]) (by kernel_rfl)) (fun _ _ _ _ _ => (pg_name (i := 9) sc_l_machine.nd rfl (by first | exact Or.inl rfl | exact Or.inr rfl))) (fun _ _ _ _ _ => pts_nil) (fun _ _ _ _ _ => (pe_ix (ixL K) (pv 9) (pv 11) (fun _ _ => rfl)))))) pa_nil))))))))), ?_⟩
    refine ⟨_, rfl, go_any (K := K) (Es := Es) (n := 7) (Ext.refl gh) D (by decide) (by decide) fun form hform G1 H1 e1 _ D1 => ?_⟩
    -- not the built ones
    dsimp only
    refine seq_hold (fun σ H' => H' = H1 ∧ σ = [some (.ref d), some (vI 3), some (vI form), none, none, none, none, none, none, none, none, none]) ?_ ?_
    rotate_left
    · intro B' hB'
      refine ⟨_, rfl, _, _, rfl, rfl, _, rfl, ?_⟩
      by_cases hf : form < 3
      · exact iteTb (decide_eq_true (by omega)) ⟨_, rfl, _, _, rfl, rfl, _, rfl, iteFb rfl (hB' _ _ ⟨rfl, rfl⟩)⟩
      · exact iteFb (decide_eq_false (by omega)) (iteFb rfl (hB' _ _ ⟨rfl, rfl⟩))
    rintro σ H1' ⟨rfl, rfl⟩
    -- three numbers
    refine ⟨_, rfl, by show 7 ≤ sizeLine; decide, fun p6 hp6 => ?_⟩
    refine go_of (K := K) (Es := Es) (ns := [2, 2, 3, 1, 2, 4, 5]) e1 D1 hp6 (by simp) (by simp) fun k hk G2 H2 e2 _ D2 => ?_
    have hk5 : 1 ≤ k ∧ k ≤ 5 := by simp at hk; omega
    refine ⟨_, rfl, _, rfl, go_any (K := K) (Es := Es) (n := 3) e2 D2 (by decide) (by decide) fun n' hn' G3 H3 e3 _ D3 => ?_⟩
    refine ⟨_, _, rfl, rfl, by show 0 ≤ sizeLine; decide, fun B hB => ⟨by show 3 ≤ sizeLine; decide, fun t ht => ⟨t, _, rfl, .of upd_same, rfl, _, _, rfl, _, _, rfl, _, _, rfl, rfl, ?_⟩⟩⟩
    have hn : V.int (1 + (n' : Int)) = vI (n' + 1) := by rw [show (1 + (n' : Int)) = ((n' + 1 : Nat) : Int) by omega]
    obtain ⟨n, hnn⟩ : ∃ n, n = n' + 1 := ⟨_, rfl⟩
    rw [← hnn] at hn
    have hn3 : 1 ≤ n ∧ n ≤ 3 := by omega
    have nB := D3.ne hB
    have hHB : H B = none := e3.base hB
    have e4 := ((Ext.refl (X := []) e3.gh).newM (o := .lst []) hB)
    have gB : G3 B = none := e3.gh.free hB
    have hBt : B ≠ t := ne_of_none (upd_same (H := H3)) ht
    have e5 := e4.newM (o := .tup [V.int (k : Int), V.int (1 + (n' : Int)), .ref B]) ht
    have D5 := D3.over e5
    have kB : upd (upd H3 B (.lst [])) t (.tup [V.int (k : Int), V.int (1 + (n' : Int)), .ref B]) B = some (.lst []) := by rw [upd_ne hBt]; exact upd_same
    have e05 := e3.trans e5.dl
    refine ⟨_, rfl, (k : Int), rfl, by omega, by omega, ?_⟩
    rw [Int.toNat_natCast]
    refine for_it walk_range (fun i σ H' => ∃ (G' : Hp) (cx : List V) (cols : List (List Nat)) (v8 v9 v10 : Option V), Ext [d, l] G H G' H' ∧ Deal d l G' H' ∧ G' B = none ∧ H' B = some (.lst cx) ∧ DpAll K G' cx (cols.map eL) ∧ cols.length = i ∧ (∀ c ∈ cols, ColOk n c) ∧ σ = [some (.ref d), some (vI 3), some (vI form), some (vI k), none, none, some (vI n), some (.ref B), v8, v9, v10, none])
      ⟨G3, [], [], none, none, none, e05, D5, gB, kB, .nil, rfl, fun c hc => (by cases hc), by rw [← hn]; rfl⟩ (fun _ _ _ _ _ => trivial) ?_ ?_
    · rintro i iv σ H6 H7 hi ⟨G6, cx, cols, v8, v9, v10, e6, D6, gB6, kB6, dcx, hci, hco, rfl⟩ ⟨rfl, rfl⟩
      have hzi : (fun i : Nat => V.int (0 + (i : Int))) i = vI i := by simp
      rw [hzi]
      have COL : True := trivial
      have start : ∀ (cv : V) (col : List Nat) (v10 : Option V) (G' H' : Hp), Ext [d, l] G H G' H' → L2.Same G6 G' → Deal d l G' H' → G' B = none → H' B = some (.lst cx) → Ld K G' cv (col.map eI) → ColOk n col → ∃ (G' : Hp) (cv' : V) (col : List Nat) (v10' : Option V), Ext [d, l] G H G' H' ∧ L2.Same G6 G' ∧ Deal d l G' H' ∧ G' B = none ∧ H' B = some (.lst cx) ∧ Ld K G' cv' (col.map eI) ∧ ColOk n col ∧ [some (.ref d), some (vI 3), some (vI form), some (vI k), none, none, some (vI n), some (.ref B), some (vI i), some cv, v10, none] = [some (.ref d), some (vI 3), some (vI form), some (vI k), none, none, some (vI n), some (.ref B), some (vI i), some cv', v10', none] :=
        fun cv col v10 G' H' a1 a2 a3 a4 a5 a6 a7 => ⟨G', cv, col, v10, a1, a2, a3, a4, a5, a6, a7, rfl⟩
      refine seq_hold (fun σ H' => ∃ (G' : Hp) (cv : V) (col : List Nat) (v10 : Option V), Ext [d, l] G H G' H' ∧ L2.Same G6 G' ∧ Deal d l G' H' ∧ G' B = none ∧ H' B = some (.lst cx) ∧ Ld K G' cv (col.map eI) ∧ ColOk n col ∧ σ = [some (.ref d), some (vI 3), some (vI form), some (vI k), none, none, some (vI n), some (.ref B), some (vI i), some cv, v10, none]) ?_ ?_
      rotate_left
      · intro B' hB'
        refine ⟨_, rfl, (n : Int), rfl, by omega, by omega, fun A1 hA1 => ?_⟩
        rw [Int.toNat_natCast]
        have nA := D6.ne hA1
        have hBA : B ≠ A1 := ne_of_none kB6 hA1
        have e7 := (Ext.refl (X := []) e6.gh).newM (o := .lst []) hA1
        refine lc_it walk_range (fun j H' => ∃ (G' : Hp) (bs : List Nat), Ext [d, l] G6 H7 G' H' ∧ Deal d l G' H' ∧ G' A1 = none ∧ G' B = none ∧ H' B = some (.lst cx) ∧ H' A1 = some (.lst (bs.map vI)) ∧ bs.length = j ∧ ∀ b ∈ bs, b < n)
          ⟨G6, [], e7.dl, D6.over e7, e6.gh.free hA1, gB6, by rw [upd_ne hBA]; exact kB6, upd_same, rfl, fun b h => by simp at h⟩ (fun _ _ _ _ => trivial) ?_ ?_
        · rintro j x H8 H9 hj ⟨G8, bs, e8, D8, gA, gB8, kB8, h1, h2, h3⟩ ⟨rfl, rfl⟩
          refine ⟨rfl, tYes_of (iteT ⟨_, rfl, _, rfl, go_any (K := K) (Es := Es) (n := n) e8 D8 (by omega) (by omega) fun x hx G9 H9 e9 e89 D9 => ?_⟩)⟩
          obtain ⟨y1, y2⟩ := e89.keepM h1 gA nA
          obtain ⟨z1, z2⟩ := e89.keepM kB8 gB8 nB
          refine ⟨_, y1, by rw [List.length_map, h2]; exact Nat.lt_of_le_of_lt (show j ≤ 100 by omega) (by decide), G9, bs ++ [x], e9.mut (.inl hA1) y2, D9.upd1 nA, y2, z2, by rw [upd_ne hBA]; exact z1, by rw [upd_same]; simp, by simp [h2], fun b hb => ?_⟩
          rcases List.mem_append.mp hb with hb | hb
          · exact h3 b hb
          · rw [List.mem_singleton.mp hb]; exact hx
        · rintro H8 ⟨G8, bs, e8, D8, gA, gB8, kB8, h1, h2, h3⟩
          refine hB' _ _ (start (.ref A1) bs v10 (upd G8 A1 (.lst (bs.map vI))) H8 ((e6.trans e8).pub (e6.base hA1) gA h1) (e8.gg.trans (gup2 gA)) (D8.pub1 nA) (by rw [upd_ne hBA]; exact gB8) kB8 ⟨A1, _, rfl, upd_same, dpA_ints bs⟩ ⟨h2, h3⟩)
      rintro σ H8 ⟨G8, cv, col, v10, e8, g8, D8, gB8, kB8, dc8, hc8, rfl⟩
      have dform : ∀ j : Nat, decide (V.int (form : Int) = V.int (j : Int)) = decide (form = j) := fun j => by rw [dec_int]; by_cases z : form = j <;> simp [z]; omega
      -- a permutation
      refine seq_hold (fun σ H' => ∃ (G' : Hp) (cv : V) (col : List Nat) (v10 : Option V), Ext [d, l] G H G' H' ∧ L2.Same G6 G' ∧ Deal d l G' H' ∧ G' B = none ∧ H' B = some (.lst cx) ∧ Ld K G' cv (col.map eI) ∧ ColOk n col ∧ σ = [some (.ref d), some (vI 3), some (vI form), some (vI k), none, none, some (vI n), some (.ref B), some (vI i), some cv, v10, none]) ?_ ?_
      rotate_left
      · intro B' hB'
        refine ⟨_, rfl, rfl, _, rfl, ?_⟩
        rw [show decide (V.int (form : Int) = V.int 3) = decide (form = 3) from dform 3]
        by_cases hf : form = 3
        · refine iteTb (decide_eq_true hf) ⟨_, rfl, _, rfl, (n : Int), rfl, RgOk.of_le (by omega) (by omega) (by omega) (by omega), fun p1 hp1 => ?_⟩
          rw [rg_nat]
          have e9 := (Ext.refl (X := []) e8.gh).new (o := .lst ((List.range n).map vI)) hp1
          have d9 : Dp K (upd G8 p1 (.lst ((List.range n).map vI))) (.ref p1) (eL (List.range n)) := .lst (.of upd_same) (dpA_ints _)
          obtain ⟨z1, z2⟩ := e9.keepM kB8 gB8 (by simp)
          refine ⟨d, l, _, _, _, rfl, e9.gh, D8.over e9, ⟨.ref p1, List.range n, rfl, d9, by simp; omega, rfl⟩, fun v G10 H10 e10 D10 ⟨mm, hmm, dm⟩ => ?_⟩
          obtain ⟨y1, y2⟩ := e10.keepM z1 z2 nB
          refine hB' _ _ (start v mm v10 G10 H10 (e8.trans (e9.dl.trans e10)) (g8.trans (e9.gg.trans e10.gg)) D10 y2 y1 dm ⟨by rw [hmm.length_eq]; simp, fun s hs => by have := hmm.mem_iff.mp hs; simpa using this⟩)
        · exact iteFb (decide_eq_false hf) (hB' _ _ (start cv col v10 G8 H8 e8 g8 D8 gB8 kB8 dc8 hc8))
      clear e8 g8 D8 gB8 kB8 dc8 hc8
      rintro σ H8 ⟨G8, cv, col, v10, e8, g8, D8, gB8, kB8, dc8, hc8, rfl⟩
      -- a turn
      refine seq_hold (fun σ H' => ∃ (G' : Hp) (cv : V) (col : List Nat) (v10 : Option V), Ext [d, l] G H G' H' ∧ L2.Same G6 G' ∧ Deal d l G' H' ∧ G' B = none ∧ H' B = some (.lst cx) ∧ Ld K G' cv (col.map eI) ∧ ColOk n col ∧ σ = [some (.ref d), some (vI 3), some (vI form), some (vI k), none, none, some (vI n), some (.ref B), some (vI i), some cv, v10, none]) ?_ ?_
      rotate_left
      · intro B' hB'
        refine ⟨_, rfl, rfl, _, rfl, ?_⟩
        rw [show decide (V.int (form : Int) = V.int 4) = decide (form = 4) from dform 4]
        by_cases hf : form = 4
        · refine iteTb (decide_eq_true hf) ⟨_, rfl, _, rfl, go_any (K := K) (Es := Es) (n := n) e8 D8 (by omega) (by omega) fun sh hsh G9 H9 e9 e89 D9 => ?_⟩
          obtain ⟨z1, z2⟩ := e89.keepM kB8 gB8 nB
          refine ⟨_, rfl, (n : Int), rfl, by omega, by omega, fun A1 hA1 => ?_⟩
          rw [Int.toNat_natCast]
          refine lcRD (K := K) (((List.range n).map fun s => (s + sh) % n).map eI) (by simp) e9.gh hA1 (fun _ => rfl) (by omega) (fun j r hj hr G10 H10 e10 Q10 q10 => ?_) fun G10 H10 e10 d10 => ?_
          · obtain rfl : r = eI ((j + sh) % n) := by simp [hj] at hr; exact hr.symm
            refine ⟨_, rfl, _, rfl, _, _, rfl, rfl, .inl ⟨_, rfl, _, rfl, _, _, rfl, rfl, by omega, ?_⟩⟩
            have : Int.fmod (0 + (j : Int) + (sh : Int)) (n : Int) = (((j + sh) % n : Nat) : Int) := by rw [show (0 + (j : Int) + (sh : Int)) = ((j + sh : Nat) : Int) by omega, fmod_nat]
            exact q10 _ _ _ (Ext.refl e10.gh) (by show Dp K G10 (.int (Int.fmod (0 + (j : Int) + (sh : Int)) (n : Int))) _; rw [this]; exact .int _)
          · obtain ⟨y1, y2⟩ := e10.keepM z1 z2 (by simp)
            exact hB' _ _ (start (.ref A1) ((List.range n).map fun s => (s + sh) % n) _ G10 H10 (e9.trans e10.dl) (g8.trans (e89.gg.trans e10.gg)) (D9.over e10) y2 y1 d10 ⟨by simp, fun s hs => by
              obtain ⟨x, _, rfl⟩ := List.mem_map.mp hs
              exact Nat.mod_lt _ (by omega)⟩)
        · exact iteFb (decide_eq_false hf) (hB' _ _ (start cv col v10 G8 H8 e8 g8 D8 gB8 kB8 dc8 hc8))
      clear e8 g8 D8 gB8 kB8 dc8 hc8
      rintro σ H8 ⟨G8, cv, col, v10, e8, g8, D8, gB8, kB8, dc8, hc8, rfl⟩
      -- a reset
      refine seq_hold (fun σ H' => ∃ (G' : Hp) (cv : V) (col : List Nat) (v10 : Option V), Ext [d, l] G H G' H' ∧ L2.Same G6 G' ∧ Deal d l G' H' ∧ G' B = none ∧ H' B = some (.lst cx) ∧ Ld K G' cv (col.map eI) ∧ ColOk n col ∧ σ = [some (.ref d), some (vI 3), some (vI form), some (vI k), none, none, some (vI n), some (.ref B), some (vI i), some cv, v10, none]) ?_ ?_
      rotate_left
      · intro B' hB'
        refine ⟨_, rfl, rfl, _, rfl, ?_⟩
        rw [show decide (V.int (form : Int) = V.int 5) = decide (form = 5) from dform 5]
        by_cases hf : form = 5
        · refine iteTb (decide_eq_true hf) ⟨_, rfl, go_any (K := K) (Es := Es) (n := 2) e8 D8 (by omega) (by omega) fun x hx G9 H9 e9 e89 D9 => ⟨rfl, _, rfl, ?_⟩⟩
          obtain ⟨z1, z2⟩ := e89.keepM kB8 gB8 nB
          have dc9 := ld_up e89.gg dc8
          rw [show decide (V.int (x : Int) = V.int 0) = decide (x = 0) by rw [dec_int]; by_cases z : x = 0 <;> simp [z]]
          by_cases hx0 : x = 0
          · have hc0 : 0 < col.length := by rw [hc8.1]; omega
            refine iteTb (decide_eq_true hx0) ⟨_, rfl, rd_ixL (i := 0) (ld_dp dc9) e9.gh (d := eI col[0]) (by simp [hc0]) fun u hu => ?_⟩
            obtain rfl := dp_int hu
            refine ⟨by show 1 ≤ sizeLine; decide, fun p1 hp1 => ⟨_, rfl, p1, (n : Int), _, rfl, rfl, upd_same, by omega, by omega, by rw [Int.toNat_natCast]; exact Nat.le_trans (Nat.mul_le_mul_left 1 (show n ≤ 100 by omega)) (by decide), fun p2 hp2 => ?_⟩⟩
            dsimp only at hp2 ⊢
            rw [Int.toNat_natCast, rep_flat] at *
            have e12 := ((Ext.refl (X := []) e9.gh).new (o := .lst [vI col[0]]) hp1).new (o := .lst (List.replicate n (vI col[0]))) hp2
            obtain ⟨y1, y2⟩ := e12.keepM z1 z2 (by simp)
            refine hB' _ _ (start (.ref p2) (List.replicate n col[0]) v10 _ _ (e9.trans e12.dl) (g8.trans (e89.gg.trans e12.gg)) (D9.over e12) y2 y1 ⟨p2, _, rfl, upd_same, dpA_rep n col[0]⟩ ⟨by simp, fun s hs => ?_⟩)
            rw [List.eq_of_mem_replicate hs]
            exact hc8.2 _ (List.getElem_mem hc0)
          · exact iteFb (decide_eq_false hx0) (hB' _ _ (start cv col v10 G9 H9 e9 (g8.trans e89.gg) D9 z2 z1 dc9 hc8))
        · exact iteFb (decide_eq_false hf) (iteFb rfl (hB' _ _ (start cv col v10 G8 H8 e8 g8 D8 gB8 kB8 dc8 hc8)))
      clear e8 g8 D8 gB8 kB8 dc8 hc8
      rintro σ H8 ⟨G8, cv, col, v10, e8, g8, D8, gB8, kB8, dc8, hc8, rfl⟩
      have hcl := dpA_len dcx
      rw [List.length_map] at hcl
      refine ⟨_, rfl, .inl ⟨rfl, _, .of kB8⟩, _, rfl, B, cx, _, rfl, rfl, kB8, Nat.lt_of_le_of_lt (show cx.length ≤ 100 by omega) (by decide), G8, cx ++ [cv], cols ++ [col], _, _, _, e8.mut (.inl hHB) gB8, D8.upd1 nB, gB8, upd_same, ?_, by simp [hci], fun c hc => ?_, rfl⟩
      · rw [List.map_append]
        exact dpA_app (dpA_up g8 dcx) (.cons (ld_dp dc8) .nil)
      · rcases List.mem_append.mp hc with hc | hc
        · exact hco c hc
        · rw [List.mem_singleton.mp hc]; exact hc8
    · rintro σ H6 ⟨G6, cx, cols, v8, v9, v10, e6, D6, gB6, kB6, dcx, hci, hco, rfl⟩
      have hcl := dpA_len dcx
      rw [List.length_map] at hcl
      have e7 := e6.pub hHB gB6 kB6
      have D7 := D6.pub1 (o := .lst cx) nB
      have kB7 : upd G6 B (.lst cx) B = some (.lst cx) := upd_same
      have dcx7 := dpA_up (gup2 (o := .lst cx) gB6) dcx
      generalize upd G6 B (.lst cx) = G7 at e7 D7 kB7 dcx7
      refine ⟨_, rfl, _, rfl, (n : Int), rfl, by omega, by omega, fun A1 hA1 => ?_⟩
      rw [Int.toNat_natCast]
      refine lcRD (K := K) ((colF n cols).map eL) (by simp [colF]) e7.gh hA1 (fun _ => rfl) (by omega) (fun j r hj hr G8 H8 e8 Q8 q8 => ?_) fun G8 H8 e8 d8 => ?_
      · obtain rfl : r = eL (cols.map fun c => c.getD j 0) := by simp [colF, hj] at hr; exact hr.symm
        refine ⟨_, rfl, B, rfl, ⟨_, (e8.gg.trans e8.gh).seq (.of kB7)⟩, fun D2 hD2 => lcLD (K := K) ((cols.map fun c => c.getD j 0).map eI) (by simp [hcl]) e8.gh (.of (e8.gg _ _ kB7)) hD2 (fun _ => rfl) (by omega) (fun m x r hm hr G9 H9 e9 Q9 q9 => ?_) fun G9 H9 e9 d9 => q8 _ _ _ e9 (ld_dp d9)⟩
        have hmc : m < cols.length := by rw [← hcl]; exact (List.getElem?_eq_some_iff.mp hm).1
        obtain ⟨dd, hd, hx2⟩ := dpA_at' dcx7 hm
        obtain rfl : dd = eL cols[m] := by simp [hmc] at hd; exact hd.symm
        have hco' := hco _ (List.getElem_mem hmc)
        have hjc : j < cols[m].length := by rw [hco'.1]; exact hj
        obtain rfl : r = eI (cols[m][j]) := by
          simp [hmc] at hr
          rw [← hr]
          simp [List.getD, hjc]
        refine ⟨_, rfl, _, rfl, ?_⟩
        rw [Int.zero_add]
        exact rd_natL (dp_up (e8.gg.trans e9.gg) hx2) e9.gh hjc (q9 _ _ _ (Ext.refl e9.gh) (.int _))
      · refine ⟨by show 2 ≤ sizeLine; decide, fun t2 ht2 => ?_⟩
        have e9 := (Ext.refl (X := []) e8.gh).new (o := .tup [vI k, .ref A1]) ht2
        exact q _ _ _ (e7.trans (e8.dl.trans e9.dl)) ((D7.over e8).over e9) ⟨k, n, cols, hk5.1, hk5.2, hn3.1, hn3.2, hci, hco, .tup (.of upd_same) (.cons (.int _) (.cons (dp_up (gup1 e8.gh ht2) (ld_dp d8)) .nil))⟩
end
end K78

/-! text L17 -/
set_option Elab.async false
set_option linter.all false
set_option maxRecDepth 100000
set_option maxHeartbeats 4000000
namespace K78
open PySem PySem.Spec PyProof.Rows L2
section
variable {P : Program} {w : World} {K : PySem.W.Frag} {mg : Str → Option Value} {base : Heap} {C : Addr} {G H G' H' : Hp} {d l : Addr}
theorem cut2 (xs : List V) : cutV xs none (some 2) = xs.take 2 := by
  show (xs.drop 0).take (min 2 xs.length - 0) = xs.take 2
  rw [List.drop_zero, Nat.sub_zero]
  by_cases h : xs.length ≤ 2
  · rw [Nat.min_eq_right h, List.take_of_length_le (Nat.le_refl _), List.take_of_length_le h]
  · rw [Nat.min_eq_left (by omega)]
theorem colF_take (n : Nat) (cols : List (List Nat)) : (colF n cols).map (·.take 2) = colF n (cols.take 2) := by
  unfold colF
  rw [List.map_map]
  refine List.map_congr_left fun s _ => ?_
  show ((cols.map fun c => c.getD s 0).take 2) = _
  rw [List.map_take]
/-- what _law_steps gives -/
def Given (rows : List (List Nat)) (tr : Option (Nat × Nat × Nat)) : Prop :=
  (∃ (k f l st : Nat) (rows0 : List (List Nat)) (mm : List Nat), BuiltP k rows0 f l st ∧ mm.Perm (List.range rows0.length) ∧ rows = renF mm rows0 ∧ tr = some (f, l, st)) ∨
  (∃ (k n : Nat) (cols : List (List Nat)), 1 ≤ k ∧ k ≤ 2 ∧ 1 ≤ n ∧ n ≤ 3 ∧ cols.length = k ∧ (∀ c ∈ cols, ColOk n c) ∧ rows = colF n cols ∧ tr = none)
def eTr : Option (Nat × Nat × Nat) → PyData
  | none => eI 0
  | some (f, l, d) => .tuple [eI f, eI l, eI d]
def spSteps (K : PySem.W.Frag) : Sp := spD K fun G r Post => r = [] ∧ Post = fun G' v => ∃ (rows : List (List Nat)) (tr : Option (Nat × Nat × Nat)), Given rows tr ∧ Dp K G' v (.tuple [eLL rows, eTr tr])
theorem sc_l_steps : FnScope ["_law_deal", "_law_commands", "_law_steps_here", "_law_triple", "_law_row"] ["_law_deal"] (defScope s_l_steps) := ⟨rfl, rfl, rfl, by decide +kernel, rfl, by decide +kernel, by decide +kernel⟩
theorem ok_l_steps (T : Txt K mg C) (F : HasD K mg "_law_steps" s_l_steps) (d_l_any : Def P w K mg base "_law_any" 1 ["_law_deal", "_law_bound"] (spAny K)) (d_l_built : Def P w K mg base "_law_built" 4 ["_law_deal", "_law_most"] (spBuilt K)) (d_l_machine : Def P w K mg base "_law_machine" 5 ["_law_deal", "_law_most"] (spMachine K)) : Def P w K mg base "_law_steps" 6 ["_law_deal"] (spSteps K) := by
  refine mkDef F sc_l_steps (fun _ _ _ _ _ _ us hl => match us, hl with | [_], _ => rfl) (fun vs H Q E h => ?_) fun f cdv A outer s H vs Q Es hr h => ?_
  · obtain ⟨d, l, G, r, Post, rfl, _, _, ⟨rfl, _⟩, _⟩ := h
    rfl
  · obtain ⟨d, l, G, r, Post, rfl, gh, D, ⟨rfl, rfl⟩, q⟩ := h
    refine ⟨_, (pss_cons (ps_if (pt_cmpR op_eq (pe_def d_l_any (hr.mono (by decide)) (by rfl) (pa_cons (pv 0) (pa_cons pe_int pa_nil))) pe_int (nomark _)) (pss_cons (ps_asg (pe_def d_l_built (hr.mono (by decide)) (by rfl) (pa_cons (pv 0) (pa_cons pe_int pa_nil))) (pgT K (n := 3) (pgs_cons (pg_name (i := 1) sc_l_steps.nd rfl (by first | exact Or.inl rfl | exact Or.inr rfl)) (pgs_cons (pg_name (i := 2) sc_l_steps.nd rfl (by first | exact Or.inl rfl | exact Or.inr rfl)) (pgs_cons (pg_name (i := 3) sc_l_steps.nd rfl (by first | exact Or.inl rfl | exact Or.inr rfl)) pgs_nil))))) (pss_one (ps_ret (pe_tup (pa_cons (pv 2) (pa_cons (pv 3) pa_nil)))))) pss_nil) (pss_cons (ps_asg (pe_def d_l_machine (hr.mono (by decide)) (by rfl) (pa_cons (pv 0) (pa_cons pe_int pa_nil))) (pgT K (n := 2) (pgs_cons (pg_name (i := 1) sc_l_steps.nd rfl (by first | exact Or.inl rfl | exact Or.inr rfl)) (pgs_cons (pg_name (i := 2) sc_l_steps.nd rfl (by first | exact Or.inl rfl | exact Or.inr rfl)) pgs_nil)))) (pss_one (ps_ret (pe_tup (pa_cons (pe_lc (own := [("_law_row", 4)]) rfl sc_l_steps.nd (piL K (pv 2)) (blkOk_by (own := [("_law_row", 4)]) (by kernel_rfl)) (fun _ _ _ _ _ => (pg_name (i := 4) sc_l_steps.nd rfl (by first | exact Or.inl rfl | exact Or.inr rfl))) (fun _ _ _ _ _ => pts_nil) (fun _ _ _ _ _ => (pe_slice (slL K) (pv 4) po_none (po_some pe_int)))) (pa_cons pe_int pa_nil))))))), ?_⟩
    refine ⟨_, rfl, go_any (K := K) (Es := Es) (n := 2) (Ext.refl gh) D (by decide) (by decide) fun x hx G1 H1 e1 _ D1 => ⟨rfl, _, rfl, ?_⟩⟩
    rw [show decide (V.int (x : Int) = V.int 0) = decide (x = 0) by rw [dec_int]; by_cases z : x = 0 <;> simp [z]]
    by_cases hx0 : x = 0
    · refine iteTb (decide_eq_true hx0) ⟨_, rfl, d, l, G1, _, _, rfl, e1.gh, D1, ⟨rfl, rfl⟩, fun v G2 H2 e2 D2 ⟨k, rows, f, l', st, m, hb, hm, dv⟩ => ?_⟩
      obtain ⟨ta, tx, rfl, ht1, ht2⟩ := dp_tuple dv
      obtain ⟨y1, y2, y3, rfl, hy2, hy3⟩ : ∃ y1 y2 y3, tx = [y1, y2, y3] ∧ Dp K G2 y2 (eLL (renF m rows)) ∧ Dp K G2 y3 (.tuple [eI f, eI l', eI st]) := by
        cases ht2 with
        | cons h1 h2 => cases h2 with
          | cons h3 h4 => cases h4 with
            | cons h5 h6 => cases h6; exact ⟨_, _, _, rfl, h3, h5⟩
      refine ⟨ta, _, rfl, same_t e2.gh ht1, rfl, _, _, rfl, _, _, rfl, _, _, rfl, rfl, _, rfl, _, rfl, by show 2 ≤ sizeLine; decide, fun p hp => ?_⟩
      have e3 := (Ext.refl (X := []) e2.gh).new (o := .tup [y2, y3]) hp
      have g3 := gup1 (o := .tup [y2, y3]) e2.gh hp
      exact q _ _ _ ((e1.trans e2).trans e3.dl) (D2.over e3) ⟨renF m rows, some (f, l', st), .inl ⟨k, f, l', st, rows, m, hb, hm, rfl, rfl⟩, .tup (.of upd_same) (.cons (dp_up g3 hy2) (.cons (dp_up g3 hy3) .nil))⟩
    · refine iteFb (decide_eq_false hx0) ⟨_, rfl, d, l, G1, _, _, rfl, e1.gh, D1, ⟨rfl, rfl⟩, fun v G2 H2 e2 D2 ⟨k, n, cols, hk1, hk5, hn1, hn3, hcl, hco, dv⟩ => ?_⟩
      obtain ⟨ta, tx, rfl, ht1, ht2⟩ := dp_tuple dv
      obtain ⟨y1, y2, rfl, hy2⟩ : ∃ y1 y2, tx = [y1, y2] ∧ Dp K G2 y2 (eLL (colF n cols)) := by
        cases ht2 with
        | cons h1 h2 => cases h2 with
          | cons h3 h4 => cases h4; exact ⟨_, _, rfl, h3⟩
      obtain ⟨ra, rx, rfl, hr1, hr2⟩ := dp_list hy2
      have hrl := dpA_len hr2
      rw [List.length_map] at hrl
      have hcF : (colF n cols).length = n := by simp [colF]
      refine ⟨ta, _, rfl, same_t e2.gh ht1, rfl, _, _, rfl, _, _, rfl, rfl, _, rfl, ra, rfl, ⟨_, e2.gh.seq hr1⟩, fun A1 hA1 => ?_⟩
      refine lcLD (K := K) ((colF n (cols.take 2)).map eL) (by simp [colF, hrl]) e2.gh hr1 hA1 (fun _ => rfl) (by omega) (fun j x r hj hr G3 H3 e3 Q3 q3 => ?_) fun G3 H3 e3 d3 => ?_
      · have hjn : j < n := by rw [← hcF, ← hrl]; exact (List.getElem?_eq_some_iff.mp hj).1
        obtain ⟨dd, hd, hx2⟩ := dpA_at' hr2 hj
        have hjl : j < (colF n cols).length := by omega
        obtain rfl : dd = eL (colF n cols)[j] := by simp [hjl] at hd; exact hd.symm
        obtain rfl : r = eL ((colF n cols)[j].take 2) := by
          rw [← colF_take] at hr
          simp [hjl] at hr
          exact hr.symm
        obtain ⟨xa, rfl, hxa⟩ := dp_rowL hx2
        refine ⟨_, rfl, 2, rfl, xa, _, rfl, (e3.gg.trans e3.gh).seq hxa, fun p hp => ?_⟩
        rw [cut2]
        refine q3 _ _ _ ((Ext.refl e3.gh).new hp) (.lst (.of upd_same) ?_)
        rw [← List.map_take]
        exact dpA_ints _
      · refine ⟨by show 2 ≤ sizeLine; decide, fun p hp => ?_⟩
        have e4 := (Ext.refl (X := []) e3.gh).new (o := .tup [.ref A1, vI 0]) hp
        exact q _ _ _ ((e1.trans e2).trans (e3.dl.trans e4.dl)) ((D2.over e3).over e4) ⟨colF n (cols.take 2), none, .inr ⟨min 2 k, n, cols.take 2, by omega, by omega, hn1, hn3, by rw [List.length_take, hcl], fun c hc => hco c (List.mem_of_mem_take hc), rfl, rfl⟩, .tup (.of upd_same) (.cons (dp_up (gup1 e3.gh hp) (ld_dp d3)) (.cons (.int _) .nil))⟩
end
end K78

/-! text L18 -/
set_option Elab.async false
set_option linter.all false
set_option maxRecDepth 100000
set_option maxHeartbeats 4000000
namespace K78
open PySem PySem.Spec PyProof.Rows L2
/-! ### repr -/
def rRepr (K : PySem.W.Frag) : List V → Hp → VK → Prop := fun xs H Q =>
  (∃ a d, xs = [.ref a] ∧ Dp K H (.ref a) d ∧ d.showable = true ∧ d.hasDict = false ∧ d.depth ≤ 100 ∧ d.shown.length ≤ sizeLine ∧ Q (.str d.shown) H) ∨
  (∃ b, xs = [.bl b] ∧ Q (.str (if b then "True" else "False")) H) ∨ (xs = [.non] ∧ Q (.str "None") H)
theorem cr_repr {X : Cx} (hg : X.A.guards = some []) (hu : X.A.units + 150 < cLine) : CallR X (.builtin "repr") (rRepr X.K) := by
  intro pins s σ H xs us Q I r h
  rcases h with ⟨a, d, rfl, hd, hs, hnd, hdep, hsz, q⟩ | ⟨b, rfl, q⟩ | ⟨rfl, q⟩
  · obtain ⟨u, rfl, rx⟩ := vals1 r
    cases rx
    obtain ⟨as, hr⟩ := Dp.reads I d (.ref a) _ hd rfl
    exact repr_of_reads' hr hs (PyData.noDict_hsm hnd) hg (by omega) (fun b o e => e) (fun h' u tk kp => ⟨.str d.shown, H, I.kept kp, ⟨_, rfl⟩, q⟩) hsz
  · obtain ⟨u, rfl, rx⟩ := vals1 r
    obtain rfl : u = Value.bool b := rx
    exact P.repr_of_bool ⟨.str _, H, I.tok _, ⟨_, rfl⟩, q⟩
  · obtain ⟨u, rfl, rx⟩ := vals1 r
    obtain rfl : u = Value.none := rx
    exact P.repr_of_none ⟨.str _, H, I.tok _, ⟨_, rfl⟩, q⟩
theorem crp {X : Cx} (K : PySem.W.Frag) (hg : X.A.guards = some []) (hu : X.A.units + 150 < cLine) (h : X.K = K := by rfl) : CallR X (.builtin "repr") (rRepr K) := by subst h; exact cr_repr hg hu
theorem show_int {n : Nat} (h : n < 10000) : (eI n).shown.length ≤ 5 := by
  show (Str.ofString (toString (n : Int))).length ≤ 5
  rw [PySem.ofString_length]
  exact int_text_length_le10 (k := 4) (by decide) (by show n < 10 ^ 4; omega)
theorem sh_int {n : Nat} (h : n < 10000) : (eI n).showable = true := by
  rw [PyData.showable]
  refine decide_eq_true ?_
  show n.log2 < 1920
  by_cases z : n = 0
  · subst z; decide
  · exact Nat.lt_trans ((Nat.log2_lt z).mpr (Nat.lt_of_lt_of_le h (show 10000 ≤ 2 ^ 14 by decide))) (by decide)
theorem shownAll_map (l : List PyData) : PyData.shownAll l = l.map PyData.shown := by
  induction l with
  | nil => rfl
  | cons a l ih => rw [PyData.shownAll, ih]; rfl
theorem showableAll_map (l : List PyData) : PyData.showableAll l = l.all PyData.showable := by
  induction l with
  | nil => rfl
  | cons a l ih => rw [PyData.showableAll, ih]; rfl
theorem hasDictAll_map (l : List PyData) : PyData.hasDictAll l = l.any PyData.hasDict := by
  induction l with
  | nil => rfl
  | cons a l ih => rw [PyData.hasDictAll, ih]; rfl
theorem piled_le {ts : List Str} {b : Nat} (h : ∀ t ∈ ts, t.length ≤ b) : piled ts ≤ (b + 2) * ts.length := by
  induction ts with
  | nil => simp [piled]
  | cons t ts ih =>
    have h1 := h t (by simp)
    have h2 := ih fun u hu => h u (by simp [hu])
    rw [List.length_cons, Nat.mul_succ]
    show t.length + 2 + piled ts ≤ _
    omega
theorem tupleText_le (ts : List Str) : (tupleText ts).length ≤ piled ts + 3 := by
  unfold tupleText
  rw [strLen_append, strLen_append]
  have e1 : ((("(" : String) : Str)).length = 1 := rfl
  have e3 : (((if ts.length == 1 then ",)" else ")" : String) : Str)).length ≤ 2 := by split <;> decide
  have e2 : (Str.join ", " ts).length ≤ piled ts := by
    by_cases h : ts = []
    · subst h; exact Nat.le_refl 0
    · have := join_length_add ts h; omega
  rw [e1]
  omega
theorem tup_shown {ds : List PyData} {b : Nat} (h : ∀ d ∈ ds, d.shown.length ≤ b) : (PyData.tuple ds).shown.length ≤ (b + 2) * ds.length + 3 := by
  rw [PyData.shown, shownAll_map]
  refine Nat.le_trans (tupleText_le _) (Nat.add_le_add_right ?_ 3)
  refine Nat.le_trans (piled_le (b := b) fun t ht => ?_) (by rw [List.length_map]; exact Nat.le_refl _)
  obtain ⟨d, hd, rfl⟩ := List.mem_map.mp ht
  exact h d hd
theorem tup_showable {ds : List PyData} (h : ∀ d ∈ ds, d.showable = true) : (PyData.tuple ds).showable = true := by
  rw [PyData.showable, showableAll_map]
  exact List.all_eq_true.mpr h
theorem tup_noDict {ds : List PyData} (h : ∀ d ∈ ds, d.hasDict = false) : (PyData.tuple ds).hasDict = false := by
  rw [PyData.hasDict, hasDictAll_map]
  exact List.any_eq_false.mpr fun d hd => by rw [h d hd]; simp
theorem tup_depth {ds : List PyData} {b : Nat} (h : ∀ d ∈ ds, d.depth ≤ b) : (PyData.tuple ds).depth ≤ b + 1 := by
  rw [PyData.depth]
  exact Nat.succ_le_succ (dAll_le h)
/-- what repr needs of a datum -/
structure Rp (d : PyData) (b n : Nat) : Prop where
  s : d.showable = true
  nd : d.hasDict = false
  p : d.depth ≤ n
  l : d.shown.length ≤ b
theorem rp_int {n : Nat} (h : n < 10000) : Rp (eI n) 5 0 := ⟨sh_int h, rfl, Nat.le_refl _, show_int h⟩
theorem Rp.mono {d : PyData} {b b' n n' : Nat} (h : Rp d b n) (hb : b ≤ b') (hn : n ≤ n') : Rp d b' n' := ⟨h.s, h.nd, Nat.le_trans h.p hn, Nat.le_trans h.l hb⟩
theorem rp_tup {ds : List PyData} {b n : Nat} (h : ∀ d ∈ ds, Rp d b n) : Rp (.tuple ds) ((b + 2) * ds.length + 3) (n + 1) :=
  ⟨tup_showable fun d hd => (h d hd).s, tup_noDict fun d hd => (h d hd).nd, tup_depth fun d hd => (h d hd).p, tup_shown fun d hd => (h d hd).l⟩
theorem rp_row {r : List Nat} {k : Nat} (hl : r.length = k) (h : ∀ s ∈ r, s < 10000) : Rp (eR r) (7 * k + 3) 1 := by
  have := rp_tup (ds := r.map eI) (b := 5) (n := 0) fun d hd => by
    obtain ⟨s, hs, rfl⟩ := List.mem_map.mp hd
    exact rp_int (h s hs)
  rw [List.length_map, hl] at this
  exact this
theorem rp_rows {rows : List (List Nat)} {k : Nat} (h : ∀ r ∈ rows, r.length = k ∧ ∀ s ∈ r, s < 10000) : Rp (eRR rows) ((7 * k + 5) * rows.length + 3) 2 := by
  have := rp_tup (ds := rows.map eR) (b := 7 * k + 3) (n := 1) fun d hd => by
    obtain ⟨r, hr, rfl⟩ := List.mem_map.mp hd
    exact rp_row (h r hr).1 (h r hr).2
  rw [List.length_map] at this
  exact this
theorem rp_made {k n : Nat} {rows : List (List Nat)} (hk : k ≤ 3) (hn : rows.length ≤ 3125) (hn2 : n < 10000) (h : ∀ r ∈ rows, r.length = k ∧ ∀ s ∈ r, s < rows.length) : Rp (.tuple [eI k, eI n, eRR rows]) sizeLine 3 := by
  have h1 := rp_rows fun r hr => ⟨(h r hr).1, fun s hs => Nat.lt_of_lt_of_le ((h r hr).2 s hs) (by omega : rows.length ≤ 10000)⟩
  have hb : (7 * k + 5) * rows.length + 3 ≤ 100000 := by
    have := Nat.mul_le_mul (show 7 * k + 5 ≤ 26 by omega) hn
    omega
  refine (rp_tup (b := 100000) (n := 2) fun d hd => ?_).mono (by show (100000 + 2) * 3 + 3 ≤ sizeLine; decide) (by decide)
  simp only [List.mem_cons, List.not_mem_nil, or_false] at hd
  rcases hd with rfl | rfl | rfl
  · exact (rp_int (by omega)).mono (by decide) (by decide)
  · exact (rp_int hn2).mono (by decide) (by decide)
  · exact h1.mono hb (by decide)
theorem rp_num {r : Option (Nat × Nat × Nat)} (h : ∀ f l d, r = some (f, l, d) → f < 10000 ∧ l < 10000 ∧ d < 10000) : Rp (eNum r) sizeLine 3 := by
  match r, h with
  | none, _ => exact ⟨rfl, rfl, by decide, by decide⟩
  | some (f, l, d), h =>
    obtain ⟨h1, h2, h3⟩ := h f l d rfl
    refine (rp_tup (b := 5) (n := 0) fun x hx => ?_).mono (by show (5 + 2) * 3 + 3 ≤ sizeLine; decide) (by decide)
    simp only [List.mem_cons, List.not_mem_nil, or_false] at hx
    rcases hx with rfl | rfl | rfl
    · exact rp_int h1
    · exact rp_int h2
    · exact rp_int h3
/-- repr(v), v a tuple or None -/
theorem rd_repr {K : PySem.W.Frag} {H : Hp} {v : V} {d : PyData} {Q : VK} (h : Dp K H v d) (hv : d = .none ∨ ∃ ds, d = .tuple ds) (r : Rp d sizeLine 3) (q : Q (.str d.shown) H) : rRepr K [v] H Q := by
  rcases hv with rfl | ⟨ds, rfl⟩
  · cases h
    exact .inr (.inr ⟨rfl, q⟩)
  · obtain ⟨a, xs, rfl, _, _⟩ := dp_tuple h
    exact .inl ⟨a, _, rfl, h, r.s, r.nd, Nat.le_trans r.p (show 3 ≤ 100 by decide), r.l, q⟩
end K78

/-! text L19 -/
set_option Elab.async false
set_option linter.all false
set_option maxRecDepth 100000
set_option maxHeartbeats 4000000
namespace K78
open PySem PySem.Spec PyProof.Rows L2
/-- what the law's walk needs of the machine that is given -/
structure LawOk (k : Nat) (rows : List (List Nat)) (tr : Option (Nat × Nat × Nat)) : Prop where
  ok : OkM k rows
  n5 : rows.length ≤ 5
  k3 : k ≤ 3
  reach : Reach40 k rows
  pre : NumPre k rows
  num : ∀ r, NumIs k rows r → (∀ t, tr = some t → r = some t) ∧ ∀ f l d, r = some (f, l, d) → f < 10000 ∧ l < 10000 ∧ d < 10000
  mir : ∀ E, AllEff k rows E → E.length * E.length * k ≤ 1600 → OkS k (mirF k rows E) ∧ NumPre k (mirF k rows E) ∧ (∀ r r', NumIs k rows r → NumIs k (mirF k rows E) r' → r' = r.map fun t => (t.2.1, t.1, t.2.2)) ∧
    ∀ b s a, b ≤ 4 → 1 ≤ s → s ≤ 4 → a ≤ 4 → letsF k (mirF k rows E) b s a = mayB k rows a s b
  run : ∀ E, AllEff k rows E → ∀ w, LetW k w → ∃ h : runW (mirF k rows E) (E.idxOf (List.range rows.length)) w < E.length, E[runW (mirF k rows E) (E.idxOf (List.range rows.length)) w] = effW rows w.reverse
section
variable {P : Program} {w : World} {K : PySem.W.Frag} {mg : Str → Option Value} {base : Heap} {C : Addr} {G H G' H' : Hp} {d l : Addr}
theorem rd_makeR {k : Nat} {rows : List (List Nat)} {v : V} (gh : L2.Same G H) (hv : Dp K G v (eLL rows)) (ok : OkM k rows) {R : Addr → Hp → Prop} (q : ∀ p G' H', Ext [] G H G' H' → Mac K C G' (.ref p) k rows → R p H') : ∀ x dx, H x = none → H dx = none → dx ≠ x →
    spInit K C (.ref x :: ([vI k, v] ++ [])) (upd (upd H dx (.own x)) x (.ins C dx [])) (fun v H2 => v = .non ∧ R x H2) E0 :=
  rd_make (Q := fun v H => match v with | .ref p => R p H | _ => False) gh hv ok q
theorem go_len {r : Addr} {ys : List V} {k : Nat} {Q : VK} (h : SqL K H r ys) (hk : ys.length = k) (q : Q (vI k) H) : rLenS K [.ref r] H Q := ⟨r, ys, rfl, .inl h, by rw [hk]; exact q⟩
theorem hu150 {k : Nat} {A : Around} (r : Room k A) : A.units + 150 < cLine := by have := r.un; omega
def spLaw (K : PySem.W.Frag) : Sp := fun vs H Q _ => ∃ (a : Addr) (ns : List Int), vs = [.ref a] ∧ SqL K H a (ns.map V.int) ∧ ns.length ≤ 63 ∧ ∀ H', Q (.bl true) H'
theorem sc_law : FnScope ["_law_script", "_law_deal", "_law_steps_here", "_law_triple", "_law_machine_here", "_law_effects_here", "_law_made", "_law_due", "_law_start", "_law_turn", "_law_row", "_law_told", "_law_later", "_law_before", "_law_step", "_law_after"] ["_law_script"] (defScope s_law) := ⟨rfl, rfl, rfl, by decide +kernel, rfl, by decide +kernel, by decide +kernel⟩
abbrev nLaw : List Str := ["_law_script", "_law_deal", "_law_steps_here", "_law_triple", "_law_machine_here", "_law_effects_here", "_law_made", "_law_due", "_law_start", "_law_turn", "_law_row", "_law_told", "_law_later", "_law_before", "_law_step", "_law_after"]
theorem same_str {z : Str} {Q : Bool → Hp → Prop} (h : Q false H) : rNe (.str z) (.str z) H fun x H' => ∃ k, x = .bl k ∧ Q k H' := ⟨rfl, _, rfl, by rw [show (!decide (V.str z = V.str z)) = false by simp]; exact h⟩
/-- what stands while the law runs -/
structure LSt (K : PySem.W.Frag) (C : Addr) (d l : Addr) (k : Nat) (rows : List (List Nat)) (tr : Option (Nat × Nat × Nat)) (E : List (List Nat)) (u tv m ev x y : V) (G H : Hp) : Prop where
  gh : L2.Same G H
  D : Deal d l G H
  u : Dp K G u (eLL rows)
  t : Dp K G tv (eTr tr)
  m : Mac K C G m k rows
  e : Ld K G ev (E.map eR)
  x : Mac K C G x k (mirF k rows E)
  y : Dp K G y (eRR (mirF k rows E))
theorem LSt.over {k : Nat} {rows : List (List Nat)} {tr : Option (Nat × Nat × Nat)} {E : List (List Nat)} {u tv m ev x y : V} (h : LSt K C d l k rows tr E u tv m ev x y G H) (e : Ext [d, l] G H G' H') (D : Deal d l G' H') : LSt K C d l k rows tr E u tv m ev x y G' H' :=
  ⟨e.gh, D, dp_up e.gg h.u, dp_up e.gg h.t, mac_up e.gg h.m, ld_up e.gg h.e, mac_up e.gg h.x, dp_up e.gg h.y⟩
theorem LSt.over0 {k : Nat} {rows : List (List Nat)} {tr : Option (Nat × Nat × Nat)} {E : List (List Nat)} {u tv m ev x y : V} (h : LSt K C d l k rows tr E u tv m ev x y G H) (e : Ext [] G H G' H') : LSt K C d l k rows tr E u tv m ev x y G' H' := h.over e.dl (h.D.over e)
/-- the first row's length -/
theorem first_row {k : Nat} {rows : List (List Nat)} {u : V} (ok : OkM k rows) (h : Dp K G u (eLL rows)) : ∃ (ua : Addr) (ux : List V) (r0 : Addr) (ys : List V), u = .ref ua ∧ SqL K G ua ux ∧ ux.length = rows.length ∧ ux[0]? = some (.ref r0) ∧ SqL K G r0 ys ∧ ys.length = k := by
  obtain ⟨ua, ux, rfl, hu1, hu2⟩ := dp_list h
  have hul := dpA_len hu2
  rw [List.length_map] at hul
  have hn1 := ok.n1
  have h0l : 0 < ux.length := by omega
  have h0 : ux[0]? = some ux[0] := by simp
  obtain ⟨dd, hdd, h02⟩ := dpA_at' hu2 h0
  obtain rfl : dd = eL rows[0] := by
    simp [show 0 < rows.length by omega] at hdd; exact hdd.symm
  obtain ⟨r0, hr0, hr02⟩ := dp_rowL h02
  exact ⟨ua, ux, r0, _, rfl, hu1, hul, by rw [h0, hr0], hr02, by rw [List.length_map]; exact ok.rl _ (List.getElem_mem (show 0 < rows.length by omega))⟩
theorem law_body (T : Txt K mg C) (LO : ∀ rows tr, Given rows tr → ∃ k, LawOk k rows tr) (MM : MkMach P w K mg base C)
    (d_l_any : Def P w K mg base "_law_any" 1 ["_law_deal", "_law_bound"] (spAny K)) (d_l_draw : Def P w K mg base "_law_draw" 1 ["_law_script", "_law_salt"] (spDraw K)) (d_l_steps : Def P w K mg base "_law_steps" 6 ["_law_deal"] (spSteps K))
    (d_l_effects : Def P w K mg base "_law_effects" 1 ["_law_steps_here"] (spLEffects K)) (d_mirrored : Def P w K mg base "mirrored" 6 ["machine"] (spMirrored K C)) (d_l_mirror : Def P w K mg base "_law_mirror" 1 ["_law_steps_here", "_law_effects_here"] (spLMirror K))
    (d_l_end : Def P w K mg base "_law_end" 1 ["_law_steps_here", "_law_state", "_law_row"] (spLEnd K)) (d_l_effect : Def P w K mg base "_law_effect" 2 ["_law_steps_here", "_law_row"] (spLEffect K)) (d_numbers : Def P w K mg base "numbers" 4 ["machine"] (spNumbers K C))
    (d_may_exchange : Def P w K mg base "may_exchange" 4 ["machine", "before", "step", "after"] (spMay K C)) (d_l_may : Def P w K mg base "_law_may" 2 ["_law_steps_here", "_law_before", "_law_step", "_law_after"] (spLMay K))
    (f : Addr) (cdv : Value) (A : Around) (outer : List Env) (s : Shared) (H : Hp) (vs : List V) (Q : VK) (E : XK) (hr : Room 6 (A.deeper (envOfC "law" (defScope s_law) s.heap.objs.size f cdv))) (hgd : A.guards = some []) (h : spLaw K vs H Q E) :
    ∃ t, PSs (cxOf CX0 P w K mg base nLaw "law" (defScope s_law) f cdv A outer s H E).nox (defBody s_law) t ∧ t { nx := fun _ H' => Q .non H', rt := Q } (start nLaw vs) H := by
  obtain ⟨a, ns, rfl, hs, hl, q⟩ := h
  refine ⟨_, (pss_cons (ps_set (i := 1) sc_law.nd rfl (by first | exact Or.inl rfl | exact Or.inr rfl) (pe_def d_l_draw (hr.mono (by decide)) (by rfl) (pa_cons (pv 0) (pa_cons pe_int pa_nil)))) (pss_cons (ps_asg (pe_def d_l_steps (hr.mono (by decide)) (by rfl) (pa_cons (pv 1) pa_nil)) (pgT K (n := 2) (pgs_cons (pg_name (i := 2) sc_law.nd rfl (by first | exact Or.inl rfl | exact Or.inr rfl)) (pgs_cons (pg_name (i := 3) sc_law.nd rfl (by first | exact Or.inl rfl | exact Or.inr rfl)) pgs_nil)))) (pss_cons (ps_par (i := 4) (j := 5) rfl sc_law.nd rfl rfl (by decide) rfl rfl (pa_cons (pe_mach K MM (hr.mono (by decide)) (by rfl) (pa_cons (pe_callB (lenS K) (by rfl) T.f_len (by decide +kernel) (pa_cons (pe_ix (ixL K) (pv 2) pe_int (fun _ _ => rfl)) pa_nil)) (pa_cons (pv 2) pa_nil))) (pa_cons (pe_def d_l_effects (hr.mono (by decide)) (by rfl) (pa_cons (pv 2) pa_nil)) pa_nil)) (by rfl)) (pss_cons (ps_par (i := 6) (j := 7) rfl sc_law.nd rfl rfl (by decide) rfl rfl (pa_cons (pe_def d_mirrored (hr.mono (by decide)) (by rfl) (pa_cons (pv 4) pa_nil)) (pa_cons (pe_def d_l_mirror (hr.mono (by decide)) (by rfl) (pa_cons (pv 2) (pa_cons (pv 5) pa_nil))) pa_nil)) (by rfl)) (pss_cons (ps_if (pt_cmpR op_ne (pe_callB (crp K hgd (hu150 hr)) (by rfl) T.f_repr (by decide +kernel) (pa_cons (pe_tup (pa_cons (pf K (pv 6)) (pa_cons (pf K (pv 6)) (pa_cons (pf K (pv 6)) pa_nil)))) pa_nil)) (pe_callB (crp K hgd (hu150 hr)) (by rfl) T.f_repr (by decide +kernel) (pa_cons (pe_tup (pa_cons (pf K (pv 4)) (pa_cons (pe_callB (lenS K) (by rfl) T.f_len (by decide +kernel) (pa_cons (pv 7) pa_nil)) (pa_cons (pv 7) pa_nil)))) pa_nil)) (nomark _)) (pss_one (ps_ret pe_bl)) pss_nil) (pss_cons (ps_set (i := 8) sc_law.nd rfl (by first | exact Or.inl rfl | exact Or.inr rfl) (pe_bm PySem.F.plainAttrs_list PySem.F.slot_list_index PySem.F.type_list_index (indexD K (hu65 hr)) (pv 5) (pa_cons (pe_tupRg rfl (by rfl) T.f_tuple (prg_1 (by rfl) T.f_range (pe_callB (lenS K) (by rfl) T.f_len (by decide +kernel) (pa_cons (pv 2) pa_nil)))) pa_nil))) (pss_cons (ps_for PassesOwn.never rfl (pi_range1 (by rfl) T.f_range (pa_cons pe_int pa_nil)) (pg_name (i := 9) sc_law.nd rfl (by first | exact Or.inl rfl | exact Or.inr rfl)) (pss_cons (ps_setLc (i := 10) (own := [("_law_step", 14)]) rfl sc_law.nd rfl rfl (sw_true rfl rfl rfl (by decide +kernel)) (pi_range1 (by rfl) T.f_range (pa_cons (pe_def d_l_any (hr.mono (by decide)) (by rfl) (pa_cons (pv 1) (pa_cons pe_int pa_nil))) pa_nil)) (blkOk_by (own := [("_law_step", 14)]) (by kernel_rfl)) (fun _ _ _ _ _ => (pg_name (i := 14) sc_law.nd rfl (by first | exact Or.inl rfl | exact Or.inr rfl))) (fun _ _ _ _ _ => pts_nil) (fun _ _ _ _ _ => (pe_def d_l_any (hr.mono (by decide)) (by rfl) (pa_cons (pv 1) (pa_cons (pe_callB (lenS K) (by rfl) T.f_len (by decide +kernel) (pa_cons (pe_ix (ixL K) (pv 2) pe_int (fun _ _ => rfl)) pa_nil)) pa_nil))))) (pss_one (ps_if (pt_cmpR (neD K (hu64 hr)) (pe_ix (ixL K) (pv 5) (pe_def d_l_end (hr.mono (by decide)) (by rfl) (pa_cons (pf K (pv 6)) (pa_cons (pv 8) (pa_cons (pv 10) pa_nil)))) (fun _ _ => rfl)) (pe_def d_l_effect (hr.mono (by decide)) (by rfl) (pa_cons (pv 2) (pa_cons (revL K (pv 10)) pa_nil))) (nomark _)) (pss_one (ps_ret pe_bl)) pss_nil)))) (pss_cons (ps_set (i := 11) sc_law.nd rfl (by first | exact Or.inl rfl | exact Or.inr rfl) (pe_def d_numbers (hr.mono (by decide)) (by rfl) (pa_cons (pv 4) pa_nil))) (pss_cons (ps_if (PW.pt (pw_and (pt_cmpR (neD K (hu64 hr)) (pv 3) pe_int (nomark _)) (pw_and1 (pt_cmpR op_ne (pe_callB (crp K hgd (hu150 hr)) (by rfl) T.f_repr (by decide +kernel) (pa_cons (pv 11) pa_nil)) (pe_callB (crp K hgd (hu150 hr)) (by rfl) T.f_repr (by decide +kernel) (pa_cons (pv 3) pa_nil)) (nomark _))))) (pss_one (ps_ret pe_bl)) pss_nil) (pss_cons (ps_if (pt_cmpR op_gt (pe_op op_mul (pe_op op_mul (pe_callB (lenS K) (by rfl) T.f_len (by decide +kernel) (pa_cons (pv 5) pa_nil)) (pe_callB (lenS K) (by rfl) T.f_len (by decide +kernel) (pa_cons (pv 5) pa_nil))) (pe_callB (lenS K) (by rfl) T.f_len (by decide +kernel) (pa_cons (pe_ix (ixL K) (pv 2) pe_int (fun _ _ => rfl)) pa_nil))) pe_int (nomark _)) (pss_one (ps_ret pe_bl)) pss_nil) (pss_cons (ps_set (i := 12) sc_law.nd rfl (by first | exact Or.inl rfl | exact Or.inr rfl) (pe_def d_numbers (hr.mono (by decide)) (by rfl) (pa_cons (pv 6) pa_nil))) (pss_cons (ps_if (pt_cmpR op_ne (pe_callB (crp K hgd (hu150 hr)) (by rfl) T.f_repr (by decide +kernel) (pa_cons (pv 12) pa_nil)) (pe_callB (crp K hgd (hu150 hr)) (by rfl) T.f_repr (by decide +kernel) (pa_cons (pe_ifExp (pt_cmpR op_isN (pv 11) pe_non (nomark _)) pe_non (pe_tup (pa_cons (pe_ix (ixT K) (pv 11) pe_int (fun _ _ => rfl)) (pa_cons (pe_ix (ixT K) (pv 11) pe_int (fun _ _ => rfl)) (pa_cons (pe_ix (ixT K) (pv 11) pe_int (fun _ _ => rfl)) pa_nil))))) pa_nil)) (nomark _)) (pss_one (ps_ret pe_bl)) pss_nil) (pss_cons (ps_for PassesOwn.never rfl (pi_range1 (by rfl) T.f_range (pa_cons pe_int pa_nil)) (pg_name (i := 9) sc_law.nd rfl (by first | exact Or.inl rfl | exact Or.inr rfl)) (pss_cons (ps_par3 (i := 13) (j := 14) (l := 15) rfl sc_law.nd rfl rfl rfl (by decide) (by decide) (by decide) rfl rfl rfl (pa_cons (pe_def d_l_any (hr.mono (by decide)) (by rfl) (pa_cons (pv 1) (pa_cons pe_int pa_nil))) (pa_cons (pe_op op_add pe_int (pe_def d_l_any (hr.mono (by decide)) (by rfl) (pa_cons (pv 1) (pa_cons pe_int pa_nil)))) (pa_cons (pe_def d_l_any (hr.mono (by decide)) (by rfl) (pa_cons (pv 1) (pa_cons pe_int pa_nil))) pa_nil))) (by rfl)) (pss_one (ps_if (pt_cmpR op_ne (pe_callB (crp K hgd (hu150 hr)) (by rfl) T.f_repr (by decide +kernel) (pa_cons (pe_def d_may_exchange (hr.mono (by decide)) (by rfl) (pa_cons (pv 6) (pa_cons (pv 13) (pa_cons (pv 14) (pa_cons (pv 15) pa_nil))))) pa_nil)) (pe_callB (crp K hgd (hu150 hr)) (by rfl) T.f_repr (by decide +kernel) (pa_cons (pe_def d_l_may (hr.mono (by decide)) (by rfl) (pa_cons (pv 2) (pa_cons (pv 15) (pa_cons (pv 14) (pa_cons (pv 13) pa_nil))))) pa_nil)) (nomark _)) (pss_one (ps_ret pe_bl)) pss_nil)))) (pss_one (ps_ret pe_bl))))))))))))))), ?_⟩
  -- the deal
  refine seq_hold (fun σ H' => ∃ (d l : Addr) (G' : Hp), L2.Same G' H' ∧ Deal d l G' H' ∧ σ = [some (.ref a), some (.ref d), none, none, none, none, none, none, none, none, none, none, none, none, none, none]) ?_ ?_
  rotate_left
  · intro B' hB'
    exact ⟨_, rfl, a, ns, H, rfl, L2.Same.refl H, hs, hl, fun d l G1 H1 e1 _ _ D1 => hB' _ _ ⟨d, l, G1, e1.gh, D1, rfl⟩⟩
  rintro σ H1 ⟨d, l, G1, gh1, D1, rfl⟩
  -- the steps
  refine seq_hold (fun σ H' => ∃ (rows : List (List Nat)) (tr : Option (Nat × Nat × Nat)) (u tv : V) (G' : Hp), Given rows tr ∧ L2.Same G' H' ∧ Deal d l G' H' ∧ Dp K G' u (eLL rows) ∧ Dp K G' tv (eTr tr) ∧ σ = [some (.ref a), some (.ref d), some u, some tv, none, none, none, none, none, none, none, none, none, none, none, none]) ?_ ?_
  rotate_left
  · intro B' hB'
    refine ⟨_, rfl, d, l, G1, [], _, rfl, gh1, D1, ⟨rfl, rfl⟩, fun v G2 H2 e2 D2 ⟨rows, tr, hgiven, dv⟩ => ?_⟩
    obtain ⟨ta, tx, rfl, ht1, ht2⟩ := dp_tuple dv
    obtain ⟨u, tv, rfl, hu, htv⟩ : ∃ u tv, tx = [u, tv] ∧ Dp K G2 u (eLL rows) ∧ Dp K G2 tv (eTr tr) := by
      cases ht2 with
      | cons h1 h2 => cases h2 with
        | cons h3 h4 => cases h4; exact ⟨_, _, rfl, h1, h3⟩
    exact ⟨ta, _, rfl, same_t e2.gh ht1, rfl, _, _, rfl, _, _, rfl, rfl, hB' _ _ ⟨rows, tr, u, tv, G2, hgiven, e2.gh, D2, hu, htv, rfl⟩⟩
  rintro σ H2 ⟨rows, tr, u, tv, G2, hgiven, gh2, D2, hu, htv, rfl⟩
  obtain ⟨k, lo⟩ := LO rows tr hgiven
  clear hgiven LO
  have hn1 := lo.ok.n1
  have hk1 := lo.ok.k1
  have hk9 := lo.k3
  have hn5 := lo.n5
  -- the machine, the effects
  refine seq_hold (fun σ H' => ∃ (E : List (List Nat)) (m ev : V) (G' : Hp), AllEff k rows E ∧ L2.Same G' H' ∧ Deal d l G' H' ∧ Dp K G' u (eLL rows) ∧ Dp K G' tv (eTr tr) ∧ Mac K C G' m k rows ∧ Ld K G' ev (E.map eR) ∧ σ = [some (.ref a), some (.ref d), some u, some tv, some m, some ev, none, none, none, none, none, none, none, none, none, none]) ?_ ?_
  rotate_left
  · intro B' hB'
    obtain ⟨ua, ux, r0, ys, rfl, hu1, hul, h0, hr0, hys⟩ := first_row lo.ok hu
    refine ⟨_, rfl, ua, ux, 0, .ref r0, rfl, rfl, gh2.seq hu1, atI_nat (j := 0) h0, r0, ys, rfl, .inl (gh2.seq hr0), ?_⟩
    subst hys
    refine ⟨_, rfl, ?_⟩
    refine rd_makeR (rows := rows) gh2 hu lo.ok fun mp G3 H3 e3 m3 => ?_
    have D3 := D2.over e3
    have du3 := dp_up e3.gg hu
    refine ⟨_, rfl, G3, _, e3.gh, ⟨.ref ua, _, rows, rfl, du3, lo.ok, lo.n5, lo.reach, rfl⟩, fun ev G4 H4 e4 ⟨E, hE, d4⟩ => ⟨_, _, rfl, ?_⟩⟩
    exact hB' _ _ ⟨E, .ref mp, ev, G4, hE, e4.gh, D3.over e4, dp_up e4.gg du3, dp_up (e3.gg.trans e4.gg) htv, mac_up e4.gg m3, d4, rfl⟩
  rintro σ H3 ⟨E, m, ev, G3, hE, gh3, D3, hu3, htv3, m3, d3, rfl⟩
  clear hu htv
  -- mirrored, due
  refine seq_hold (fun σ H' => ∃ (x y : V) (G' : Hp), LSt K C d l k rows tr E u tv m ev x y G' H' ∧ σ = [some (.ref a), some (.ref d), some u, some tv, some m, some ev, some x, some y, none, none, none, none, none, none, none, none]) ?_ ?_
  rotate_left
  · intro B' hB'
    refine ⟨_, rfl, G3, _, gh3, ⟨m, k, rows, rfl, m3, lo.ok, lo.n5, rfl⟩, fun xv G5 H5 e5 ⟨E', hE', m5⟩ => ?_⟩
    obtain rfl := hE.uniq hE'
    refine ⟨_, rfl, _, rfl, G5, _, e5.gh, ⟨u, ev, k, rows, E, rfl, dp_up e5.gg hu3, dp_up e5.gg (ld_dp d3), lo.ok, lo.n5, hE, rfl⟩, fun dv G6 H6 e6 d6 => ⟨_, _, rfl, ?_⟩⟩
    have e56 := e5.trans e6
    exact hB' _ _ ⟨xv, dv, G6, ⟨e6.gh, D3.over e56, dp_up e56.gg hu3, dp_up e56.gg htv3, mac_up e56.gg m3, ld_up e56.gg d3, mac_up e6.gg m5, d6⟩, rfl⟩
  rintro σ H4 ⟨x, y, G4, S4, rfl⟩
  clear m3 d3 hu3 htv3 D3 D2 D1
  have mok := mir_ok hE lo.ok lo.n5
  have few := hE.few lo.ok lo.n5
  have hml : (mirF k rows E).length = E.length := by rw [mirF, List.length_map]
  -- the two written out
  refine seq_hold (fun σ H' => ∃ (G' : Hp), LSt K C d l k rows tr E u tv m ev x y G' H' ∧ σ = [some (.ref a), some (.ref d), some u, some tv, some m, some ev, some x, some y, none, none, none, none, none, none, none, none]) ?_ ?_
  rotate_left
  · intro B' hB'
    have rp1 := rp_made (k := k) (n := (mirF k rows E).length) (rows := mirF k rows E) hk9 (by omega) (by omega) fun r hr => ⟨mok.rl r hr, mok.rb r hr⟩
    obtain ⟨xp, xd, xst, rfl, hxp, hxst⟩ := S4.x
    obtain ⟨mp, md, mst, rfl, hmp1, hmst⟩ := S4.m
    obtain ⟨da, dxs, rfl, hda1, hda2⟩ := dp_tuple S4.y
    have hdl := dpA_len hda2
    rw [List.length_map] at hdl
    refine ⟨_, rfl, xp, C, xd, _, _, rfl, S4.gh _ _ hxp, T.cl, T.nC, lk_commands, _, rfl, xp, C, xd, _, _, rfl, S4.gh _ _ hxp, T.cl, T.nS, lk_states, _, rfl, xp, C, xd, _, _, rfl, S4.gh _ _ hxp, T.cl, T.nT, lk_steps, by show 3 ≤ sizeLine; decide, fun p1 hp1 => ?_⟩
    have e7 := (Ext.refl (X := []) S4.gh).new (o := .tup [vI k, vI (mirF k rows E).length, xst]) hp1
    have d7 : Dp K (upd G4 p1 (.tup [vI k, vI (mirF k rows E).length, xst])) (.ref p1) (.tuple [eI k, eI (mirF k rows E).length, eRR (mirF k rows E)]) :=
      .tup (.of upd_same) (.cons (.int _) (.cons (.int _) (.cons (dp_up (gup1 S4.gh hp1) hxst) .nil)))
    refine .inl ⟨p1, _, rfl, dp_up e7.gh d7, rp1.s, rp1.nd, Nat.le_trans rp1.p (by decide), rp1.l, ?_⟩
    refine ⟨_, rfl, mp, C, md, _, _, rfl, (e7.gg.trans e7.gh) _ _ hmp1, T.cl, T.nC, lk_commands, _, rfl, da, dxs, rfl, .inr (same_t (e7.gg.trans e7.gh) hda1), _, rfl, by show 3 ≤ sizeLine; decide, fun p2 hp2 => ?_⟩
    have e8 := e7.new (o := .tup [vI k, vI dxs.length, .ref da]) hp2
    have d8 : Dp K (upd (upd G4 p1 (.tup [vI k, vI (mirF k rows E).length, xst])) p2 (.tup [vI k, vI dxs.length, .ref da])) (.ref p2) (.tuple [eI k, eI (mirF k rows E).length, eRR (mirF k rows E)]) :=
      .tup (.of upd_same) (.cons (.int _) (.cons (by rw [hdl]; exact .int _) (.cons (dp_up (e7.gg.trans (gup1 e7.gh hp2)) S4.y) .nil)))
    refine .inl ⟨p2, _, rfl, dp_up e8.gh d8, rp1.s, rp1.nd, Nat.le_trans rp1.p (by decide), rp1.l, ?_⟩
    exact same_str (hB' _ _ ⟨_, S4.over0 e8, rfl⟩)
  clear S4
  rintro σ H4 ⟨G4, S4, rfl⟩
  -- the start
  have hst : List.range rows.length ∈ E := hE.mem.mpr .start
  have hstl := List.idxOf_lt_length_of_mem hst
  refine seq_hold (fun σ H' => ∃ (G' : Hp), LSt K C d l k rows tr E u tv m ev x y G' H' ∧ σ = [some (.ref a), some (.ref d), some u, some tv, some m, some ev, some x, some y, some (vI (E.idxOf (List.range rows.length))), none, none, none, none, none, none, none]) ?_ ?_
  rotate_left
  · intro B' hB'
    obtain ⟨ea, ex, rfl, hea1, hea2⟩ := S4.e
    obtain ⟨ua, ux, rfl, hu1, hu2⟩ := dp_list S4.u
    have hul := dpA_len hu2
    rw [List.length_map] at hul
    refine ⟨_, rfl, .inl ⟨rfl, _, .of (S4.gh _ _ hea1)⟩, _, rfl, ua, ux, rfl, .inl (S4.gh.seq hu1), (rows.length : Int), by rw [hul], RgOk.of_le (by omega) (by omega) (by omega) (by omega), fun q1 hq1 => ?_⟩
    rw [rg_nat]
    have e9 := (Ext.refl (X := []) S4.gh).new (o := .tup ((List.range rows.length).map vI)) hq1
    have d9 : Dp K _ (.ref q1) (eR (List.range rows.length)) := tup_new S4.gh hq1 (dpA_ints (List.range rows.length))
    have de9 := dp_up (e9.gg.trans e9.gh) (ld_dp S4.e)
    dsimp only [tNil]
    exact ix_rows de9 (dp_up e9.gh d9) hst (hB' _ _ ⟨_, S4.over0 e9, rfl⟩)
  clear S4
  rintro σ H4 ⟨G4, S4, rfl⟩
  -- three turns
  refine seq_hold (fun σ H' => ∃ (G' : Hp) (v9 v10 : Option V), LSt K C d l k rows tr E u tv m ev x y G' H' ∧ σ = [some (.ref a), some (.ref d), some u, some tv, some m, some ev, some x, some y, some (vI (E.idxOf (List.range rows.length))), v9, v10, none, none, none, none, none]) ?_ ?_
  rotate_left
  · intro B' hB'
    refine ⟨_, rfl, by decide, by decide, ?_⟩
    refine for_it walk_range (fun i σ H' => ∃ (G' : Hp) (v9 v10 : Option V), LSt K C d l k rows tr E u tv m ev x y G' H' ∧ σ = [some (.ref a), some (.ref d), some u, some tv, some m, some ev, some x, some y, some (vI (E.idxOf (List.range rows.length))), v9, v10, none, none, none, none, none])
      ⟨G4, none, none, S4, rfl⟩ (fun _ _ _ _ _ => trivial) ?_ fun σ H5 ⟨G5, v9, v10, S5, hσ⟩ => hB' _ _ ⟨G5, v9, v10, S5, hσ⟩
    rintro i iv σ H5 H6 hi ⟨G5, v9, v10, S5, rfl⟩ ⟨rfl, rfl⟩
    have hzi : (fun i : Nat => V.int (0 + (i : Int))) i = vI i := by simp
    rw [hzi]
    refine seq_hold (fun σ H' => ∃ (G' : Hp) (rv : V) (r : List Nat), LSt K C d l k rows tr E u tv m ev x y G' H' ∧ Ld K G' rv (r.map eI) ∧ (∀ c ∈ r, c < k) ∧ σ = [some (.ref a), some (.ref d), some u, some tv, some m, some ev, some x, some y, some (vI (E.idxOf (List.range rows.length))), some (vI i), some rv, none, none, none, none, none]) ?_ ?_
    rotate_left
    · intro B'' hB''
      refine ⟨_, rfl, go_any (K := K) (Es := E0) (n := 8) (Ext.refl S5.gh) S5.D (by decide) (by decide) fun n hn G6 H6 e6 _ D6 => ?_⟩
      have S6 := S5.over e6 D6
      refine ⟨(n : Int), rfl, by omega, by omega, fun A1 hA1 => ?_⟩
      rw [Int.toNat_natCast]
      have nA := D6.ne hA1
      have e7 := (Ext.refl (X := []) S6.gh).newM (o := .lst []) hA1
      refine lc_it walk_range (fun j H' => ∃ (G' : Hp) (bs : List Nat), Ext [d, l] G6 H6 G' H' ∧ Deal d l G' H' ∧ G' A1 = none ∧ H' A1 = some (.lst (bs.map vI)) ∧ bs.length = j ∧ ∀ b ∈ bs, b < k)
        ⟨G6, [], e7.dl, D6.over e7, S6.gh.free hA1, upd_same, rfl, fun b h => by simp at h⟩ (fun _ _ _ _ => trivial) ?_ ?_
      · rintro j xx H8 H9 hj ⟨G8, bs, e8, D8, gA, h1, h2, h3⟩ ⟨rfl, rfl⟩
        have S8 := S6.over e8 D8
        obtain ⟨ua, ux, r0, ys, rfl, hu1, hul, h0, hr0, hys⟩ := first_row lo.ok S8.u
        refine ⟨rfl, tYes_of (iteT ⟨_, rfl, _, rfl, ua, ux, 0, .ref r0, rfl, rfl, S8.gh.seq hu1, atI_nat (j := 0) h0, r0, ys, rfl, .inl (S8.gh.seq hr0), ?_⟩)⟩
        subst hys
        refine go_any (K := K) (Es := E0) e8 D8 (by omega) (by omega) fun xx hxx G9 H9 e9 e89 D9 => ?_
        obtain ⟨y1, y2⟩ := e89.keepM h1 gA nA
        refine ⟨_, y1, by rw [List.length_map, h2]; exact Nat.lt_of_le_of_lt (show j ≤ 100 by omega) (by decide), G9, bs ++ [xx], e9.mut (.inl hA1) y2, D9.upd1 nA, y2, by rw [upd_same]; simp, by simp [h2], fun b hb => ?_⟩
        rcases List.mem_append.mp hb with hb | hb
        · exact h3 b hb
        · rw [List.mem_singleton.mp hb]; exact hxx
      · rintro H8 ⟨G8, bs, e8, D8, gA, h1, h2, h3⟩
        exact hB'' _ _ ⟨upd G8 A1 (.lst (bs.map vI)), .ref A1, bs, S6.over (e8.pub hA1 gA h1) (D8.pub1 nA), ⟨A1, _, rfl, upd_same, dpA_ints bs⟩, h3, rfl⟩
    rintro σ H6 ⟨G6, rv, r, S6, dr, hrk, rfl⟩
    obtain ⟨hlt, hrun⟩ := lo.run E hE r hrk
    obtain ⟨xp, xd, xst, rfl, hxp, hxst⟩ := S6.x
    refine ⟨_, rfl, _, rfl, xp, C, xd, _, _, rfl, S6.gh _ _ hxp, T.cl, T.nT, lk_steps, _, rfl, _, rfl, G6, _, S6.gh, ⟨xst, rv, k, mirF k rows E, E.idxOf (List.range rows.length), r, rfl, .inl hxst, mok, by rw [hml]; exact hstl, ld_dp dr, hrk, rfl⟩, fun v G7 H7 e7 hv => ?_⟩
    subst hv
    have S7 := S6.over0 e7
    have dr7 := ld_up e7.gg dr
    refine rd_ixL (d := eR (effW rows r.reverse)) (ld_dp S7.e) e7.gh (by rw [List.getElem?_map, List.getElem?_eq_getElem hlt, hrun]; rfl) fun z hz => ?_
    obtain ⟨ra, rx, rfl, hr1, hr2⟩ := dr7
    rw [dpAll_ints hr2] at hr1
    refine ⟨_, rfl, _, rfl, ra, _, rfl, S7.gh.seq (.of hr1), fun p hp => ?_⟩
    have e8 := (Ext.refl (X := []) S7.gh).new (o := .lst (r.map vI).reverse) hp
    have d8 : Dp K (upd G7 p (.lst (r.map vI).reverse)) (.ref p) (eL r.reverse) := .lst (.of upd_same) (by rw [← List.map_reverse]; exact dpA_ints _)
    have S8 := S7.over0 e8
    refine ⟨_, _, S8.gh, ⟨u, .ref p, k, rows, r.reverse, rfl, S8.u, lo.ok, d8, fun c hc => hrk c (List.mem_reverse.mp hc), rfl⟩, fun v G9 H9 e9 dv => ?_⟩
    refine ⟨eR (effW rows r.reverse), eR (effW rows r.reverse), dp_up e9.gh (dp_up (e8.gg.trans e9.gg) hz), dp_up e9.gh dv, sh_row _, sh_row _, _, rfl, ?_⟩
    rw [eqv_row]
    exact iteFb (by simp) ⟨G9, _, _, S8.over0 e9, rfl⟩
  clear S4
  rintro σ H4 ⟨G4, v9, v10, S4, rfl⟩
  -- the numbers
  refine seq_hold (fun σ H' => ∃ (G' : Hp) (r : Option (Nat × Nat × Nat)) (rv : V), LSt K C d l k rows tr E u tv m ev x y G' H' ∧ NumIs k rows r ∧ Dp K G' rv (eNum r) ∧ σ = [some (.ref a), some (.ref d), some u, some tv, some m, some ev, some x, some y, some (vI (E.idxOf (List.range rows.length))), v9, v10, some rv, none, none, none, none]) ?_ ?_
  rotate_left
  · intro B' hB'
    exact ⟨_, rfl, G4, _, S4.gh, ⟨m, k, rows, rfl, S4.m, ⟨lo.ok, by omega⟩, by omega, lo.pre, rfl⟩, fun rv G5 H5 e5 ⟨r, hr, dr⟩ => hB' _ _ ⟨G5, r, rv, S4.over0 e5, hr, dr, rfl⟩⟩
  clear S4
  rintro σ H4 ⟨G4, r, rv, S4, hr, dr, rfl⟩
  obtain ⟨htr, hsm⟩ := lo.num r hr
  have rp2 := rp_num hsm
  have hshape : ∀ r : Option (Nat × Nat × Nat), eNum r = .none ∨ ∃ ds, eNum r = .tuple ds := fun r => match r with
    | none => .inl rfl
    | some (_, _, _) => .inr ⟨_, rfl⟩
  -- as built
  refine seq_hold (fun σ H' => H' = H4 ∧ σ = [some (.ref a), some (.ref d), some u, some tv, some m, some ev, some x, some y, some (vI (E.idxOf (List.range rows.length))), v9, v10, some rv, none, none, none, none]) ?_ ?_
  rotate_left
  · intro B' hB'
    have ht4 := dp_up S4.gh S4.t
    cases tr with
    | none =>
      exact ⟨_, rfl, eI 0, .int 0, ht4, .int 0, by decide, by decide, _, rfl, iteFb rfl (iteFb rfl (hB' _ _ ⟨rfl, rfl⟩))⟩
    | some t =>
      obtain ⟨f', l', d'⟩ := t
      obtain rfl := htr _ rfl
      obtain ⟨ra, rx, rfl, hr1, hr2⟩ := dp_tuple dr
      obtain ⟨ta, tx, rfl, ht1, ht2⟩ := dp_tuple ht4
      refine ⟨_, rfl, .tuple [eI f', eI l', eI d'], .int 0, ht4, .int 0, sh_row [f', l', d'], by decide, _, rfl, iteTb rfl ⟨_, rfl, .inl ⟨ra, _, rfl, dp_up S4.gh dr, rp2.s, rp2.nd, Nat.le_trans rp2.p (show 3 ≤ 100 by decide), rp2.l, ?_⟩⟩⟩
      refine ⟨_, rfl, .inl ⟨ta, _, rfl, ht4, rp2.s, rp2.nd, Nat.le_trans rp2.p (show 3 ≤ 100 by decide), rp2.l, ?_⟩⟩
      exact same_str (iteFb rfl (hB' _ _ ⟨rfl, rfl⟩))
  rintro σ H5 ⟨rfl, rfl⟩
  -- few effects
  refine seq_hold (fun σ H' => H' = H5 ∧ E.length * E.length * k ≤ 1600 ∧ σ = [some (.ref a), some (.ref d), some u, some tv, some m, some ev, some x, some y, some (vI (E.idxOf (List.range rows.length))), v9, v10, some rv, none, none, none, none]) ?_ ?_
  rotate_left
  · intro B' hB'
    obtain ⟨ea, ex, rfl, hea1, hea2⟩ := S4.e
    have hel := dpA_len hea2
    rw [List.length_map] at hel
    obtain ⟨ua, ux, r0, ys, rfl, hu1, hul, h0, hr0, hys⟩ := first_row lo.ok S4.u
    have hE1 : SqL K H5 ea ex := S4.gh.seq (.of hea1)
    refine ⟨_, rfl, ea, ex, rfl, .inl hE1, _, rfl, ea, ex, rfl, .inl hE1, _, _, rfl, rfl, .inl ⟨by omega, by omega⟩, _, rfl, ua, ux, 0, .ref r0, rfl, rfl, S4.gh.seq hu1, atI_nat (j := 0) h0, r0, ys, rfl, .inl (S4.gh.seq hr0), _, _, rfl, rfl, .inr ⟨by omega, by omega⟩, _, _, rfl, rfl, _, rfl, ?_⟩
    have hcast : ((1600 : Int) < (ex.length : Int) * (ex.length : Int) * (ys.length : Int)) ↔ ¬(E.length * E.length * k ≤ 1600) := by
      rw [hel, hys, ← Int.natCast_mul, ← Int.natCast_mul]; omega
    by_cases hfew : E.length * E.length * k ≤ 1600
    · exact iteFb (decide_eq_false fun z => hcast.mp z hfew) (hB' _ _ ⟨rfl, hfew, rfl⟩)
    · exact iteTb (decide_eq_true (hcast.mpr hfew)) (q _)
  rintro σ H6 ⟨rfl, hfew, rfl⟩
  obtain ⟨mS, mpre, mnum, mmay⟩ := lo.mir E hE hfew
  -- the numbers of the mirrored machine
  refine seq_hold (fun σ H' => ∃ (G' : Hp) (r' : Option (Nat × Nat × Nat)) (rv' : V), LSt K C d l k rows tr E u tv m ev x y G' H' ∧ Dp K G' rv (eNum r) ∧ NumIs k (mirF k rows E) r' ∧ Dp K G' rv' (eNum r') ∧ σ = [some (.ref a), some (.ref d), some u, some tv, some m, some ev, some x, some y, some (vI (E.idxOf (List.range rows.length))), v9, v10, some rv, some rv', none, none, none]) ?_ ?_
  rotate_left
  · intro B' hB'
    exact ⟨_, rfl, G4, _, S4.gh, ⟨x, k, mirF k rows E, rfl, S4.x, mS, by omega, mpre, rfl⟩, fun rv' G5 H5 e5 ⟨r', hr', dr'⟩ => hB' _ _ ⟨G5, r', rv', S4.over0 e5, dp_up e5.gg dr, hr', dr', rfl⟩⟩
  clear S4 dr
  rintro σ H4 ⟨G4, r', rv', S4, dr, hr', dr', rfl⟩
  have hswap := mnum r r' hr hr'
  refine seq_hold (fun σ H' => ∃ (G' : Hp), LSt K C d l k rows tr E u tv m ev x y G' H' ∧ σ = [some (.ref a), some (.ref d), some u, some tv, some m, some ev, some x, some y, some (vI (E.idxOf (List.range rows.length))), v9, v10, some rv, some rv', none, none, none]) ?_ ?_
  rotate_left
  · intro B' hB'
    cases r with
    | none =>
      subst hswap
      cases dr
      cases dr'
      exact ⟨_, rfl, .inr (.inr ⟨rfl, _, rfl, rfl, _, rfl, iteTb rfl (.inr (.inr ⟨rfl, same_str (iteFb rfl (hB' _ _ ⟨G4, S4, rfl⟩))⟩))⟩)⟩
    | some t =>
      obtain ⟨f', l', d'⟩ := t
      subst hswap
      obtain ⟨h1, h2, h3⟩ := hsm f' l' d' rfl
      have rp3 : Rp (eNum (some (l', f', d'))) sizeLine 3 := rp_num fun f l d h => by cases h; exact ⟨h2, h1, h3⟩
      obtain ⟨ra, rx, rfl, hr1, hr2⟩ := dp_tuple dr
      obtain ⟨sa, sx, rfl, hs1, hs2⟩ := dp_tuple dr'
      refine ⟨_, rfl, .inl ⟨sa, _, rfl, dp_up S4.gh dr', rp3.s, rp3.nd, Nat.le_trans rp3.p (show 3 ≤ 100 by decide), rp3.l, ?_⟩⟩
      refine ⟨_, rfl, rfl, _, rfl, iteFb rfl ?_⟩
      obtain rfl : rx = [vI f', vI l', vI d'] := by
        cases hr2 with
        | cons k1 k2 => cases k2 with
          | cons k3 k4 => cases k4 with
            | cons k5 k6 => cases k6; rw [dp_int k1, dp_int k3, dp_int k5]
      have hrt := same_t S4.gh hr1
      refine ⟨_, rfl, ra, _, 1, vI l', rfl, rfl, hrt, atI_nat (j := 1) rfl, _, rfl, ra, _, 0, vI f', rfl, rfl, hrt, atI_nat (j := 0) rfl, _, rfl, ra, _, 2, vI d', rfl, rfl, hrt, atI_nat (j := 2) rfl, ?_⟩
      refine ⟨by show 3 ≤ sizeLine; decide, fun p hp => ?_⟩
      have e7 := (Ext.refl (X := []) S4.gh).new (o := .tup [vI l', vI f', vI d']) hp
      have d7 : Dp K (upd G4 p (.tup [vI l', vI f', vI d'])) (.ref p) (eNum (some (l', f', d'))) := .tup (.of upd_same) (.cons (.int _) (.cons (.int _) (.cons (.int _) .nil)))
      refine .inl ⟨p, _, rfl, dp_up e7.gh d7, rp3.s, rp3.nd, Nat.le_trans rp3.p (show 3 ≤ 100 by decide), rp3.l, ?_⟩
      exact same_str (iteFb rfl (hB' _ _ ⟨_, S4.over0 e7, rfl⟩))
  clear S4 dr dr'
  rintro σ H4 ⟨G4, S4, rfl⟩
  -- four turns
  refine seq_hold (fun σ H' => True) ?_ ?_
  · rintro σ H7 _
    exact q _
  · intro B' hB'
    refine ⟨_, rfl, by decide, by decide, ?_⟩
    refine for_it walk_range (fun i σ H' => ∃ (G' : Hp) (v9 v13 v14 v15 : Option V), LSt K C d l k rows tr E u tv m ev x y G' H' ∧ σ = [some (.ref a), some (.ref d), some u, some tv, some m, some ev, some x, some y, some (vI (E.idxOf (List.range rows.length))), v9, v10, some rv, some rv', v13, v14, v15])
      ⟨G4, v9, none, none, none, S4, rfl⟩ (fun _ _ _ _ _ => trivial) ?_ fun σ H5 _ => hB' _ _ trivial
    rintro i iv σ H5 H6 hi ⟨G5, v9, v13, v14, v15, S5, rfl⟩ ⟨rfl, rfl⟩
    have hzi : (fun i : Nat => V.int (0 + (i : Int))) i = vI i := by simp
    rw [hzi]
    refine seq_hold (fun σ H' => ∃ (G' : Hp) (b s e : Nat), b ≤ 4 ∧ 1 ≤ s ∧ s ≤ 4 ∧ e ≤ 4 ∧ LSt K C d l k rows tr E u tv m ev x y G' H' ∧ σ = [some (.ref a), some (.ref d), some u, some tv, some m, some ev, some x, some y, some (vI (E.idxOf (List.range rows.length))), some (vI i), v10, some rv, some rv', some (vI b), some (vI s), some (vI e)]) ?_ ?_
    rotate_left
    · intro B'' hB''
      refine ⟨_, rfl, go_any (K := K) (Es := E0) (n := 5) (Ext.refl S5.gh) S5.D (by decide) (by decide) fun b hb G6 H6 e6 _ D6 => ?_⟩
      refine ⟨_, rfl, go_any (K := K) (Es := E0) (n := 4) e6 D6 (by decide) (by decide) fun s hs G7 H7 e7 _ D7 => ⟨_, _, rfl, rfl, ?_⟩⟩
      refine ⟨_, rfl, go_any (K := K) (Es := E0) (n := 5) e7 D7 (by decide) (by decide) fun e he G8 H8 e8 _ D8 => ⟨_, _, _, rfl, ?_⟩⟩
      have hs1 : V.int (1 + (s : Int)) = vI (s + 1) := by rw [show (1 + (s : Int)) = ((s + 1 : Nat) : Int) by omega]
      exact hB'' _ _ ⟨G8, b, s + 1, e, by omega, by omega, by omega, by omega, S5.over e8 D8, by rw [← hs1]; rfl⟩
    rintro σ H6 ⟨G6, b, s, e, hb, hs1, hs4, he, S6, rfl⟩
    refine ⟨_, rfl, _, rfl, _, rfl, _, rfl, G6, _, S6.gh, ⟨x, k, mirF k rows E, b, s, e, rfl, S6.x, mS, by omega, hs1, by omega, rfl⟩, fun v G7 H7 e7 hv => ?_⟩
    subst hv
    refine .inr (.inl ⟨_, rfl, ?_⟩)
    have S7 := S6.over0 e7
    refine ⟨_, rfl, _, rfl, _, rfl, _, rfl, G7, _, S7.gh, ⟨u, k, rows, e, s, b, rfl, S7.u, ⟨lo.ok, by omega⟩, by omega, by omega, hs1, by omega, by omega, rfl⟩, fun v G8 H8 e8 hv => ?_⟩
    subst hv
    refine .inr (.inl ⟨_, rfl, ?_⟩)
    rw [mmay b s e hb hs1 hs4 he]
    exact same_str ⟨G8, _, _, _, _, S7.over0 e8, rfl⟩
end
end K78

/-! text M1 -/
set_option Elab.async false
set_option linter.all false
set_option maxRecDepth 100000
set_option maxHeartbeats 4000000
namespace K78
/-! ### harmless exchanges, by words -/
/-- exchanging two commands s apart, b at least ahead, a behind, changes no end -/
def LW (k : Nat) (rows : List (List Nat)) (b s a : Nat) : Prop := ∀ s0 < rows.length, ∀ u : List Nat, u.length = b → LetW k u → ∀ x < k, ∀ c < k, ∀ w : List Nat, w.length + 1 = s → LetW k w → ∀ v : List Nat, v.length = a → LetW k v →
  runW rows s0 (u ++ x :: (w ++ c :: v)) = runW rows s0 (u ++ c :: (w ++ x :: v))
section
variable {k : Nat} {rows : List (List Nat)}
theorem runW_cons (s c : Nat) (w : List Nat) : runW rows s (c :: w) = runW rows (at2 rows s c) w := rfl
theorem LetW.of_append {u v : List Nat} (h : LetW k (u ++ v)) : LetW k u ∧ LetW k v := ⟨fun c hc => h c (List.mem_append_left _ hc), fun c hc => h c (List.mem_append_right _ hc)⟩
theorem LetW.of_cons {c : Nat} {v : List Nat} (h : LetW k (c :: v)) : c < k ∧ LetW k v := ⟨h c (by simp), fun d hd => h d (by simp [hd])⟩
theorem onto_iff (ok : OkM k rows) {S : List Nat} (hS : ∀ s ∈ S, s < rows.length) {t : Nat} : Onto rows S t ↔ ∃ s ∈ S, ∃ c < k, t = at2 rows s c := by
  constructor
  · rintro ⟨s, hs, ht⟩
    have hsl := hS s hs
    have e : rows.getD s [] = rows[s] := by simp [List.getD, hsl]
    rw [e] at ht
    obtain ⟨c, hc, rfl⟩ := List.mem_iff_getElem.mp ht
    have hl := ok.rl _ (List.getElem_mem hsl)
    exact ⟨s, hs, c, by omega, (at2_eq ok hsl hc).symm⟩
  · rintro ⟨s, hs, c, hc, rfl⟩
    have hsl := hS s hs
    have hl := ok.rl _ (List.getElem_mem hsl)
    refine ⟨s, hs, ?_⟩
    rw [at2_eq ok hsl (by omega), show rows.getD s [] = rows[s] by simp [List.getD, hsl]]
    exact List.getElem_mem _
theorem mem_behF (ok : OkM k rows) : ∀ {b t : Nat}, t ∈ behF rows b ↔ ∃ s0 < rows.length, ∃ u, u.length = b ∧ LetW k u ∧ t = runW rows s0 u
  | 0, t => by
    show t ∈ List.range rows.length ↔ _
    rw [List.mem_range]
    constructor
    · exact fun h => ⟨t, h, [], rfl, .nil, rfl⟩
    · rintro ⟨s0, h, u, hu, _, rfl⟩
      rw [List.eq_nil_of_length_eq_zero hu]; exact h
  | b + 1, t => by
    show t ∈ onwF rows (behF rows b) ↔ _
    rw [mem_onwF ok, onto_iff ok (behF_lt b)]
    constructor
    · rintro ⟨s, hs, c, hc, rfl⟩
      obtain ⟨s0, h0, u, hu, hl, rfl⟩ := (mem_behF ok).mp hs
      exact ⟨s0, h0, u ++ [c], by simp [hu], hl.app (.cons hc .nil), (runW_snoc _ _ _ _).symm⟩
    · rintro ⟨s0, h0, u, hu, hl, rfl⟩
      rcases List.eq_nil_or_concat u with rfl | ⟨u, c, rfl⟩
      · cases hu
      · rw [List.concat_eq_append] at *
        obtain ⟨h1, h2⟩ := hl.of_append
        exact ⟨runW rows s0 u, (mem_behF ok).mpr ⟨s0, h0, u, by simp at hu; omega, h1, rfl⟩, c, h2.of_cons.1, runW_snoc _ _ _ _⟩
theorem mem_seqF (ok : OkM k rows) {S : List Nat} (hS : ∀ s ∈ S, s < rows.length) {x c : Nat} (hx : x < k) (hc : c < k) : ∀ {j : Nat} {q : Nat × Nat}, q ∈ seqF k rows S x c j ↔ ∃ t ∈ S, ∃ w, w.length = j ∧ LetW k w ∧ q = (runW rows t (x :: w), runW rows t (c :: w))
  | 0, q => by
    show q ∈ openF rows S x c ↔ _
    rw [mem_openF ok hS hx hc]
    constructor
    · rintro ⟨t, ht, rfl⟩; exact ⟨t, ht, [], rfl, .nil, rfl⟩
    · rintro ⟨t, ht, w, hw, _, rfl⟩
      rw [List.eq_nil_of_length_eq_zero hw]; exact ⟨t, ht, rfl⟩
  | j + 1, q => by
    show q ∈ carrF k rows (seqF k rows S x c j) ↔ _
    rw [mem_carrF ok (seqF_lt j)]
    constructor
    · rintro ⟨q', hq', d, hd, rfl⟩
      obtain ⟨t, ht, w, hw, hl, rfl⟩ := (mem_seqF ok hS hx hc).mp hq'
      exact ⟨t, ht, w ++ [d], by simp [hw], hl.app (.cons hd .nil), by rw [← List.cons_append, ← List.cons_append, runW_snoc, runW_snoc]⟩
    · rintro ⟨t, ht, w, hw, hl, rfl⟩
      rcases List.eq_nil_or_concat w with rfl | ⟨u, d, rfl⟩
      · cases hw
      · rw [List.concat_eq_append] at *
        obtain ⟨h1, h2⟩ := hl.of_append
        exact ⟨_, (mem_seqF ok hS hx hc).mpr ⟨t, ht, u, by simp at hw; omega, h1, rfl⟩, d, h2.of_cons.1, by rw [← List.cons_append, ← List.cons_append, runW_snoc, runW_snoc]⟩
theorem clsF_iff (ok : OkM k rows) : ∀ {a p q : Nat}, p < rows.length → q < rows.length → ((clsF rows a).getD p 0 = (clsF rows a).getD q 0 ↔ ∀ v : List Nat, v.length = a → LetW k v → runW rows p v = runW rows q v)
  | 0, p, q, hp, hq => by
    have e : (clsF rows 0).getD p 0 = (clsF rows 0).getD q 0 ↔ p = q := by simp [clsF, List.getD, hp, hq]
    rw [e]
    constructor
    · rintro rfl _ _ _; rfl
    · intro h; exact h [] rfl .nil
  | a + 1, p, q, hp, hq => by
    show (coarsF rows (clsF rows a)).getD p 0 = (coarsF rows (clsF rows a)).getD q 0 ↔ _
    rw [coarsF_iff hp hq]
    have hlp := ok.rl _ (List.getElem_mem hp)
    have hlq := ok.rl _ (List.getElem_mem hq)
    have key : keyOfS (clsF rows a) rows[p] = keyOfS (clsF rows a) rows[q] ↔ ∀ c < k, (clsF rows a).getD (at2 rows p c) 0 = (clsF rows a).getD (at2 rows q c) 0 := by
      unfold keyOfS
      constructor
      · intro h c hc
        have := congrArg (fun l : List Nat => l.getD c 0) h
        have h1 : c < rows[p].length := by omega
        have h2 : c < rows[q].length := by omega
        rw [at2_eq ok hp h1, at2_eq ok hq h2]
        simpa [List.getD, h1, h2] using this
      · intro h
        refine List.ext_getElem (by simp [hlp, hlq]) fun c h1 h2 => ?_
        rw [List.length_map] at h1 h2
        have := h c (by omega)
        rw [at2_eq ok hp h1, at2_eq ok hq h2] at this
        simpa using this
    rw [key]
    constructor
    · intro h v hv hl
      cases v with
      | nil => cases hv
      | cons c v =>
        obtain ⟨h1, h2⟩ := hl.of_cons
        exact (clsF_iff ok (at2_lt ok hp h1) (at2_lt ok hq h1)).mp (h c h1) v (by simpa using hv) h2
    · intro h c hc
      refine (clsF_iff ok (at2_lt ok hp hc) (at2_lt ok hq hc)).mpr fun v hv hl => ?_
      exact h (c :: v) (by simp [hv]) (.cons hc hl)
theorem letsF_iff (ok : OkM k rows) {b s a : Nat} (hs : 1 ≤ s) : letsF k rows b s a = true ↔ LW k rows b s a := by
  obtain ⟨j, rfl⟩ : ∃ j, s = j + 1 := ⟨s - 1, by omega⟩
  have hS := behF_lt (rows := rows) b
  -- one pair of commands
  have one : ∀ x c, x < k → c < k → (clashF rows (clsF rows a) (seqF k rows (behF rows b) x c j) x c = true ↔ ∀ s0 < rows.length, ∀ u : List Nat, u.length = b → LetW k u → ∀ w : List Nat, w.length = j → LetW k w → ∀ v : List Nat, v.length = a → LetW k v →
      runW rows s0 (u ++ x :: (w ++ c :: v)) = runW rows s0 (u ++ c :: (w ++ x :: v))) := by
    intro x c hx hc
    unfold clashF
    rw [List.all_eq_true]
    constructor
    · intro h s0 h0 u hu hul w hw hwl v hv hvl
      have hq := (mem_seqF ok hS hx hc).mpr ⟨runW rows s0 u, (mem_behF ok).mpr ⟨s0, h0, u, hu, hul, rfl⟩, w, hw, hwl, rfl⟩
      have hlt := seqF_lt (k := k) (rows := rows) j _ hq
      have := of_decide_eq_true (h _ hq)
      have := (clsF_iff ok (at2_lt ok hlt.1 hc) (at2_lt ok hlt.2 hx)).mp this v hv hvl
      rw [runW_app, runW_app, runW_cons, runW_cons, runW_app, runW_app, runW_cons, runW_cons]
      exact this
    · intro h q hq
      obtain ⟨t, ht, w, hw, hwl, rfl⟩ := (mem_seqF ok hS hx hc).mp hq
      obtain ⟨s0, h0, u, hu, hul, rfl⟩ := (mem_behF ok).mp ht
      have hlt := seqF_lt (k := k) (rows := rows) j _ hq
      refine decide_eq_true ((clsF_iff ok (at2_lt ok hlt.1 hc) (at2_lt ok hlt.2 hx)).mpr fun v hv hvl => ?_)
      have := h s0 h0 u hu hul w hw hwl v hv hvl
      rw [runW_app, runW_app, runW_cons, runW_cons, runW_app, runW_app, runW_cons, runW_cons] at this
      exact this
  unfold letsF
  rw [List.all_eq_true]
  constructor
  · intro h s0 h0 u hu hul x hx c hc w hw hwl v hv hvl
    have hw' : w.length = j := by omega
    rcases Nat.lt_trichotomy x c with z | z | z
    · exact (one x c hx hc).mp (h (x, c) (mem_unlike.mpr ⟨z, hc⟩)) s0 h0 u hu hul w hw' hwl v hv hvl
    · rw [z]
    · exact ((one c x hc hx).mp (h (c, x) (mem_unlike.mpr ⟨z, hx⟩)) s0 h0 u hu hul w hw' hwl v hv hvl).symm
  · rintro h ⟨x, c⟩ hp
    obtain ⟨h1, h2⟩ := mem_unlike.mp hp
    exact (one x c (by omega) h2).mpr fun s0 h0 u hu hul w hw hwl v hv hvl => h s0 h0 u hu hul x (by omega) c h2 w (by omega) hwl v hv hvl
theorem mem_iterC (ok : OkM k rows) {l : List (Nat × Nat)} (hl : ∀ q ∈ l, q.1 < rows.length ∧ q.2 < rows.length) : ∀ {j : Nat} {q : Nat × Nat}, q ∈ iterC k rows l j ↔ ∃ p ∈ l, ∃ v, v.length = j ∧ LetW k v ∧ q = (runW rows p.1 v, runW rows p.2 v)
  | 0, q => by
    show q ∈ l ↔ _
    constructor
    · exact fun h => ⟨q, h, [], rfl, .nil, rfl⟩
    · rintro ⟨p, hp, v, hv, _, rfl⟩
      rw [List.eq_nil_of_length_eq_zero hv]; exact hp
  | j + 1, q => by
    show q ∈ carrF k rows (iterC k rows l j) ↔ _
    rw [mem_carrF ok (iterC_lt l hl j)]
    constructor
    · rintro ⟨q', hq', d, hd, rfl⟩
      obtain ⟨p, hp, v, hv, hvl, rfl⟩ := (mem_iterC ok hl).mp hq'
      exact ⟨p, hp, v ++ [d], by simp [hv], hvl.app (.cons hd .nil), by rw [runW_snoc, runW_snoc]⟩
    · rintro ⟨p, hp, v, hv, hvl, rfl⟩
      rcases List.eq_nil_or_concat v with rfl | ⟨u, d, rfl⟩
      · cases hv
      · rw [List.concat_eq_append] at *
        obtain ⟨h1, h2⟩ := hvl.of_append
        exact ⟨_, (mem_iterC ok hl).mpr ⟨p, hp, u, by simp at hv; omega, h1, rfl⟩, d, h2.of_cons.1, by rw [runW_snoc, runW_snoc]⟩
theorem mayB_iff (ok : OkM k rows) {b s a : Nat} (hs : 1 ≤ s) : mayB k rows b s a = true ↔ LW k rows b s a := by
  obtain ⟨j, rfl⟩ : ∃ j, s = j + 1 := ⟨s - 1, by omega⟩
  have hS := behF_lt (rows := rows) b
  have one : ∀ x c, x < k → c < k → ((∀ q ∈ endsF k rows b (j + 1) a x c, q.1 = q.2) ↔ ∀ s0 < rows.length, ∀ u : List Nat, u.length = b → LetW k u → ∀ w : List Nat, w.length = j → LetW k w → ∀ v : List Nat, v.length = a → LetW k v →
      runW rows s0 (u ++ x :: (w ++ c :: v)) = runW rows s0 (u ++ c :: (w ++ x :: v))) := by
    intro x c hx hc
    have hcr := crossF_lt ok (seqF_lt (k := k) (rows := rows) (S := behF rows b) (a := x) (c := c) j) hx hc
    unfold endsF
    show (∀ q ∈ iterC k rows (crossF rows (seqF k rows (behF rows b) x c j) x c) a, q.1 = q.2) ↔ _
    constructor
    · intro h s0 h0 u hu hul w hw hwl v hv hvl
      have hq := (mem_seqF ok hS hx hc).mpr ⟨runW rows s0 u, (mem_behF ok).mpr ⟨s0, h0, u, hu, hul, rfl⟩, w, hw, hwl, rfl⟩
      have := h _ ((mem_iterC ok hcr).mpr ⟨_, List.mem_map.mpr ⟨_, hq, rfl⟩, v, hv, hvl, rfl⟩)
      rw [runW_app, runW_app, runW_cons, runW_cons, runW_app, runW_app, runW_cons, runW_cons]
      exact this
    · intro h q hq
      obtain ⟨p, hp, v, hv, hvl, rfl⟩ := (mem_iterC ok hcr).mp hq
      obtain ⟨p', hp', rfl⟩ := List.mem_map.mp hp
      obtain ⟨t, ht, w, hw, hwl, rfl⟩ := (mem_seqF ok hS hx hc).mp hp'
      obtain ⟨s0, h0, u, hu, hul, rfl⟩ := (mem_behF ok).mp ht
      have := h s0 h0 u hu hul w hw hwl v hv hvl
      rw [runW_app, runW_app, runW_cons, runW_cons, runW_app, runW_app, runW_cons, runW_cons] at this
      exact this
  constructor
  · intro h s0 h0 u hu hul x hx c hc w hw hwl v hv hvl
    have hw' : w.length = j := by omega
    have get : ∀ x c, x < k → c < x → ∀ q ∈ endsF k rows b (j + 1) a x c, q.1 = q.2 := fun x c hx hc q hq =>
      of_decide_eq_true (List.all_eq_true.mp (List.all_eq_true.mp (List.all_eq_true.mp h x (List.mem_range.mpr hx)) c (List.mem_range.mpr hc)) q hq)
    rcases Nat.lt_trichotomy x c with z | z | z
    · exact ((one c x hc hx).mp (get c x hc z) s0 h0 u hu hul w hw' hwl v hv hvl).symm
    · rw [z]
    · exact (one x c hx hc).mp (get x c hx z) s0 h0 u hu hul w hw' hwl v hv hvl
  · intro h
    refine List.all_eq_true.mpr fun x hx => List.all_eq_true.mpr fun c hc => List.all_eq_true.mpr fun q hq => decide_eq_true ?_
    have hx := List.mem_range.mp hx
    have hc := List.mem_range.mp hc
    exact (one x c hx (by omega)).mpr (fun s0 h0 u hu hul w hw hwl v hv hvl => h s0 h0 u hu hul x hx c (by omega) w (by omega) hwl v hv hvl) q hq
end
end K78

/-! text M2 -/
set_option Elab.async false
set_option linter.all false
set_option maxRecDepth 100000
set_option maxHeartbeats 4000000
namespace K78
section
variable {k : Nat} {rows : List (List Nat)}
theorem LW.up_b (ok : OkM k rows) {b s a : Nat} (h : LW k rows b s a) : LW k rows (b + 1) s a := by
  intro s0 h0 u hu hul x hx c hc w hw hwl v hv hvl
  cases u with
  | nil => cases hu
  | cons d u =>
    obtain ⟨h1, h2⟩ := hul.of_cons
    exact h (at2 rows s0 d) (at2_lt ok h0 h1) u (by simpa using hu) h2 x hx c hc w hw hwl v hv hvl
theorem LW.up_a (ok : OkM k rows) {b s a : Nat} (h : LW k rows b s a) : LW k rows b s (a + 1) := by
  intro s0 h0 u hu hul x hx c hc w hw hwl v hv hvl
  rcases List.eq_nil_or_concat v with rfl | ⟨v, d, rfl⟩
  · cases hv
  · rw [List.concat_eq_append] at *
    obtain ⟨h1, h2⟩ := hvl.of_append
    have := h s0 h0 u hu hul x hx c hc w hw hwl v (by simp at hv; omega) h1
    have e : ∀ x c : Nat, u ++ x :: (w ++ c :: (v ++ [d])) = (u ++ x :: (w ++ c :: v)) ++ [d] := fun x c => by simp
    rw [e, e, runW_snoc, runW_snoc, this]
theorem LW.mono (ok : OkM k rows) {b s a b' a' : Nat} (h : LW k rows b s a) (hb : b ≤ b') (ha : a ≤ a') : LW k rows b' s a' := by
  have h1 : ∀ n, LW k rows (b + n) s a := fun n => by
    induction n with
    | zero => exact h
    | succ n ih => exact ih.up_b ok
  have h2 : ∀ n, LW k rows b' s (a + n) := fun n => by
    induction n with
    | zero => have := h1 (b' - b); rwa [show b + (b' - b) = b' by omega] at this
    | succ n ih => exact ih.up_a ok
  have := h2 (a' - a)
  rwa [show a + (a' - a) = a' by omega] at this
theorem LW.add (ok : OkM k rows) {b s t a : Nat} (hs : 1 ≤ s) (ht : 1 ≤ t) (h : LW k rows b s a) (h' : LW k rows b t a) : LW k rows b (s + t) a := by
  intro s0 h0 u hu hul x hx c hc W hW hWl v hv hvl
  obtain ⟨w1, m, w2, rfl, h1, h2⟩ : ∃ w1 m w2, W = w1 ++ m :: w2 ∧ w1.length + 1 = s ∧ w2.length + 1 = t := by
    refine ⟨W.take (s - 1), W[s - 1]'(by omega), W.drop s, ?_, by simp; omega, by simp; omega⟩
    have e1 : W.drop (s - 1) = W[s - 1]'(by omega) :: W.drop s := by
      rw [List.drop_eq_getElem_cons (by omega)]
      congr 2
      omega
    rw [← e1, List.take_append_drop]
  obtain ⟨k1, k2⟩ := hWl.of_append
  obtain ⟨k3, k4⟩ := k2.of_cons
  have a1 := (h.mono ok (Nat.le_refl _) (show a ≤ t + a by omega)) s0 h0 u hu hul x hx m k3 w1 h1 k1 (w2 ++ c :: v) (by simp; omega) (k4.app (.cons hc hvl))
  have a2 := (h'.mono ok (show b ≤ b + s by omega) (Nat.le_refl _)) s0 h0 (u ++ m :: w1) (by simp; omega) (hul.app (.cons k3 k1)) x hx c hc w2 h2 k4 v hv hvl
  have a3 := (h.mono ok (Nat.le_refl _) (show a ≤ t + a by omega)) s0 h0 u hu hul m k3 c hc w1 h1 k1 (w2 ++ x :: v) (by simp; omega) (k4.app (.cons hx hvl))
  simp only [List.append_assoc, List.cons_append] at a1 a2 a3 ⊢
  rw [a1, a2, a3]
theorem LW.sub (ok : OkM k rows) {b s t a : Nat} (hs : 1 ≤ s) (ht : 1 ≤ t) (h : LW k rows b s a) (h' : LW k rows b (s + t) a) : LW k rows (b + s) t a := by
  intro s0 h0 U hU hUl x hx c hc w hw hwl v hv hvl
  obtain ⟨u, m, w0, rfl, h1, h2⟩ : ∃ u m w0, U = u ++ m :: w0 ∧ u.length = b ∧ w0.length + 1 = s := by
    refine ⟨U.take b, U[b]'(by omega), U.drop (b + 1), ?_, by simp; omega, by simp; omega⟩
    rw [← List.drop_eq_getElem_cons (by omega), List.take_append_drop]
  obtain ⟨k1, k2⟩ := hUl.of_append
  obtain ⟨k3, k4⟩ := k2.of_cons
  have a1 := (h.mono ok (Nat.le_refl _) (show a ≤ t + a by omega)) s0 h0 u h1 k1 m k3 x hx w0 h2 k4 (w ++ c :: v) (by simp; omega) (hwl.app (.cons hc hvl))
  have a2 := h' s0 h0 u h1 k1 x hx c hc (w0 ++ m :: w) (by simp; omega) (k4.app (.cons k3 hwl)) v hv hvl
  have a3 := (h.mono ok (Nat.le_refl _) (show a ≤ t + a by omega)) s0 h0 u h1 k1 c hc m k3 w0 h2 k4 (w ++ x :: v) (by simp; omega) (hwl.app (.cons hx hvl))
  simp only [List.append_assoc, List.cons_append] at a1 a2 a3 ⊢
  rw [a1, a2, a3]
/-! ### the mirrored machine -/
variable {E : List (List Nat)}
def ixE (rows E : List (List Nat)) (v : List Nat) : Nat := E.idxOf (effW rows v)
theorem ixE_mem (ok : OkM k rows) (hE : AllEff k rows E) {v : List Nat} (hv : LetW k v) : effW rows v ∈ E := hE.mem.mpr ((isEff_iff ok).mpr ⟨v, hv, rfl⟩)
theorem ixE_lt (ok : OkM k rows) (hE : AllEff k rows E) {v : List Nat} (hv : LetW k v) : ixE rows E v < E.length := List.idxOf_lt_length_of_mem (ixE_mem ok hE hv)
theorem ixE_get (ok : OkM k rows) (hE : AllEff k rows E) {v : List Nat} (hv : LetW k v) : E[ixE rows E v]'(ixE_lt ok hE hv) = effW rows v := List.getElem_idxOf _
theorem ixE_eff (ok : OkM k rows) (hE : AllEff k rows E) {v v' : List Nat} (hv : LetW k v) (hv' : LetW k v') (h : ixE rows E v = ixE rows E v') : effW rows v = effW rows v' := by
  have h1 := ixE_get ok hE hv
  have h2 := ixE_get ok hE hv'
  rw [← h1, ← h2]
  congr 1
theorem mir_step (ok : OkM k rows) (hE : AllEff k rows E) {v : List Nat} (hv : LetW k v) {c : Nat} (hc : c < k) : at2 (mirF k rows E) (ixE rows E v) c = ixE rows E (c :: v) := by
  have hl := ixE_lt ok hE hv
  have e : (mirF k rows E).getD (ixE rows E v) [] = (List.range k).map fun c => E.idxOf (followedF (singleF rows c) (effW rows v)) := by
    have := ixE_get ok hE hv
    simp [mirF, List.getD, hl, this]
  unfold at2
  rw [e]
  simp [List.getD, hc, effW_cons ok hc, ixE]
theorem mir_run (ok : OkM k rows) (hE : AllEff k rows E) : ∀ {w v : List Nat}, LetW k v → LetW k w → runW (mirF k rows E) (ixE rows E v) w = ixE rows E (w.reverse ++ v)
  | [], v, _, _ => rfl
  | c :: w, v, hv, hw => by
    obtain ⟨h1, h2⟩ := hw.of_cons
    rw [runW_cons, mir_step ok hE hv h1, mir_run ok hE (.cons h1 hv) h2]
    simp
theorem mir_all (ok : OkM k rows) (hE : AllEff k rows E) {i : Nat} (hi : i < (mirF k rows E).length) : ∃ v, LetW k v ∧ i = ixE rows E v := by
  rw [mirF, List.length_map] at hi
  obtain ⟨v, hv, h⟩ := (isEff_iff ok).mp (hE.mem.mp (List.getElem_mem hi))
  refine ⟨v, hv, ?_⟩
  unfold ixE
  rw [← h]
  exact (List.Nodup.idxOf_getElem hE.nodup i hi).symm
theorem LetW.rev {w : List Nat} (h : LetW k w) : LetW k w.reverse := fun c hc => h c (List.mem_reverse.mp hc)
theorem run_of_eff {v v' : List Nat} (h : effW rows v = effW rows v') {s : Nat} (hs : s < rows.length) : runW rows s v = runW rows s v' := by
  rw [← effW_at v hs, ← effW_at v' hs, h]
theorem eff_of_run {v v' : List Nat} (h : ∀ s < rows.length, runW rows s v = runW rows s v') : effW rows v = effW rows v' := List.map_congr_left fun s hs => h s (List.mem_range.mp hs)
/-- in the mirrored machine before and after are exchanged -/
theorem mir_LW (ok : OkM k rows) (hE : AllEff k rows E) {b s a : Nat} : LW k (mirF k rows E) b s a ↔ LW k rows a s b := by
  constructor
  · intro h s0 h0 u hu hul x hx c hc w hw hwl v hv hvl
    have h00 : ixE rows E [] < (mirF k rows E).length := by rw [mirF, List.length_map]; exact ixE_lt ok hE .nil
    have := h (ixE rows E []) h00 v.reverse (by simp [hv]) hvl.rev c hc x hx w.reverse (by simp [hw]) hwl.rev u.reverse (by simp [hu]) hul.rev
    rw [mir_run ok hE .nil (hvl.rev.app (.cons hc (hwl.rev.app (.cons hx hul.rev)))), mir_run ok hE .nil (hvl.rev.app (.cons hx (hwl.rev.app (.cons hc hul.rev))))] at this
    have e := ixE_eff ok hE (((hvl.rev.app (.cons hc (hwl.rev.app (.cons hx hul.rev)))).rev).app .nil) (((hvl.rev.app (.cons hx (hwl.rev.app (.cons hc hul.rev)))).rev).app .nil) this
    have := run_of_eff e h0
    simpa using this
  · intro h i hi u hu hul x hx c hc w hw hwl v hv hvl
    obtain ⟨z, hz, rfl⟩ := mir_all ok hE hi
    rw [mir_run ok hE hz (hul.app (.cons hx (hwl.app (.cons hc hvl)))), mir_run ok hE hz (hul.app (.cons hc (hwl.app (.cons hx hvl))))]
    unfold ixE
    congr 1
    refine eff_of_run fun s0 h0 => ?_
    rw [runW_app, runW_app]
    congr 1
    have := h s0 h0 v.reverse (by simp [hv]) hvl.rev c hc x hx w.reverse (by simp [hw]) hwl.rev u.reverse (by simp [hu]) hul.rev
    simpa using this
end
end K78

/-! text M3 -/
set_option Elab.async false
set_option linter.all false
set_option maxRecDepth 100000
set_option maxHeartbeats 4000000
namespace K78
section
variable {k : Nat} {rows : List (List Nat)}
def LE (k : Nat) (rows : List (List Nat)) (s : Nat) : Prop := ∃ b a, LW k rows b s a
/-- the numbers, by words -/
def NumW (k : Nat) (rows : List (List Nat)) : Option (Nat × Nat × Nat) → Prop
  | none => ∀ s, 1 ≤ s → ¬ LE k rows s
  | some (f, l, d) => 1 ≤ d ∧ (∀ s, 1 ≤ s → (LE k rows s ↔ d ∣ s)) ∧ (∃ a, LW k rows f d a) ∧ (∀ j < f, ∀ a, ¬ LW k rows j d a) ∧ (∃ b, LW k rows b d l) ∧ ∀ j < l, ∀ b, ¬ LW k rows b d j
theorem behF_max {x : Nat} (h : Settled (behF rows) x) (c : Nat) : behF rows (max c x) = behF rows x := by
  have := settled_min (F := onwF rows) (fun j => rfl) h (max c x)
  rw [show min (max c x) x = x by omega] at this
  exact this.symm
theorem clsF_max {x : Nat} (h : Settled (clsF rows) x) (c : Nat) : clsF rows (max c x) = clsF rows x := by
  have := settled_min (F := coarsF rows) (fun j => rfl) h (max c x)
  rw [show min (max c x) x = x by omega] at this
  exact this.symm
theorem letsF_congr {b b' s a a' : Nat} (hb : behF rows b = behF rows b') (ha : clsF rows a = clsF rows a') : letsF k rows b s a = letsF k rows b' s a' := by
  unfold letsF
  rw [hb, ha]
theorem LE_iff (ok : OkM k rows) {x y s : Nat} (hx : Settled (behF rows) x) (hy : Settled (clsF rows) y) (hs : 1 ≤ s) : LE k rows s ↔ letsF k rows x s y = true := by
  constructor
  · rintro ⟨b, a, h⟩
    have := (letsF_iff ok hs).mpr (h.mono ok (Nat.le_max_left b x) (Nat.le_max_left a y))
    rw [letsF_congr (behF_max hx b) (clsF_max hy a)] at this
    exact this
  · exact fun h => ⟨x, y, (letsF_iff ok hs).mp h⟩
theorem first_iff (ok : OkM k rows) {y s f : Nat} (hy : Settled (clsF rows) y) (hs : 1 ≤ s) : (∃ a, LW k rows f s a) ↔ letsF k rows f s y = true := by
  constructor
  · rintro ⟨a, h⟩
    have := (letsF_iff ok hs).mpr (h.mono ok (Nat.le_refl _) (Nat.le_max_left a y))
    rw [letsF_congr (b' := f) rfl (clsF_max hy a)] at this
    exact this
  · exact fun h => ⟨y, (letsF_iff ok hs).mp h⟩
theorem last_iff (ok : OkM k rows) {x s l : Nat} (hx : Settled (behF rows) x) (hs : 1 ≤ s) : (∃ b, LW k rows b s l) ↔ letsF k rows x s l = true := by
  constructor
  · rintro ⟨b, h⟩
    have := (letsF_iff ok hs).mpr (h.mono ok (Nat.le_max_left b x) (Nat.le_refl _))
    rw [letsF_congr (a' := l) (behF_max hx b) rfl] at this
    exact this
  · exact fun h => ⟨x, (letsF_iff ok hs).mp h⟩
theorem numW_of (ok : OkM k rows) {r : Option (Nat × Nat × Nat)} (h : NumIs k rows r) : NumW k rows r := by
  obtain ⟨x, y, hx, hy, h⟩ := h
  match r, h with
  | none, h => exact fun s hs z => by rw [LE_iff ok hx hy hs, h s hs] at z; cases z
  | some (f, l, d), h =>
    obtain ⟨hd, h1, h2, h3, h4, h5⟩ := h
    refine ⟨hd, fun s hs => by rw [LE_iff ok hx hy hs]; exact h1 s hs, (first_iff ok hy hd).mpr h2, fun j hj a z => ?_, (last_iff ok hx hd).mpr h4, fun j hj b z => ?_⟩
    · have := (first_iff ok hy hd).mp ⟨a, z⟩
      rw [h3 j hj] at this; cases this
    · have := (last_iff ok hx hd).mp ⟨b, z⟩
      rw [h5 j hj] at this; cases this
theorem numW_uniq {r r' : Option (Nat × Nat × Nat)} (h : NumW k rows r) (h' : NumW k rows r') : r = r' := by
  match r, r', h, h' with
  | none, none, _, _ => rfl
  | none, some (f, l, d), h, ⟨hd, h1, _⟩ => exact absurd ((h1 d hd).mpr (Nat.dvd_refl d)) (h d hd)
  | some (f, l, d), none, ⟨hd, h1, _⟩, h => exact absurd ((h1 d hd).mpr (Nat.dvd_refl d)) (h d hd)
  | some (f, l, d), some (f', l', d'), ⟨hd, h1, h2, h3, h4, h5⟩, ⟨hd', k1, k2, k3, k4, k5⟩ =>
    have e : d = d' := Nat.dvd_antisymm ((h1 d' hd').mp ((k1 d' hd').mpr (Nat.dvd_refl _))) ((k1 d hd).mp ((h1 d hd).mpr (Nat.dvd_refl _)))
    subst e
    have ef : f = f' := by
      rcases Nat.lt_trichotomy f f' with z | z | z
      · obtain ⟨a, ha⟩ := h2; exact absurd ha (k3 f z a)
      · exact z
      · obtain ⟨a, ha⟩ := k2; exact absurd ha (h3 f' z a)
    have el : l = l' := by
      rcases Nat.lt_trichotomy l l' with z | z | z
      · obtain ⟨a, ha⟩ := h4; exact absurd ha (k5 l z a)
      · exact z
      · obtain ⟨a, ha⟩ := k4; exact absurd ha (h5 l' z a)
    rw [ef, el]
theorem numW_mir (ok : OkM k rows) {E : List (List Nat)} (hE : AllEff k rows E) {r : Option (Nat × Nat × Nat)} (h : NumW k rows r) : NumW k (mirF k rows E) (r.map fun t => (t.2.1, t.1, t.2.2)) := by
  have le : ∀ s, LE k (mirF k rows E) s ↔ LE k rows s := fun s => ⟨fun ⟨b, a, z⟩ => ⟨a, b, (mir_LW ok hE).mp z⟩, fun ⟨b, a, z⟩ => ⟨a, b, (mir_LW ok hE).mpr z⟩⟩
  match r, h with
  | none, h => exact fun s hs z => h s hs ((le s).mp z)
  | some (f, l, d), ⟨hd, h1, h2, h3, h4, h5⟩ =>
    refine ⟨hd, fun s hs => (le s).trans (h1 s hs), ?_, fun j hj a z => h5 j hj a ((mir_LW ok hE).mp z), ?_, fun j hj b z => h3 j hj b ((mir_LW ok hE).mp z)⟩
    · obtain ⟨b, hb⟩ := h4; exact ⟨b, (mir_LW ok hE).mpr hb⟩
    · obtain ⟨a, ha⟩ := h2; exact ⟨a, (mir_LW ok hE).mpr ha⟩
theorem least {P : Nat → Prop} : ∀ (n s : Nat), s ≤ n → 1 ≤ s → P s → ∃ d, 1 ≤ d ∧ P d ∧ ∀ t, 1 ≤ t → P t → d ≤ t
  | 0, s, h, h1, _ => by omega
  | n + 1, s, h, h1, hp => by
    by_cases z : ∃ t, 1 ≤ t ∧ t ≤ n ∧ P t
    · obtain ⟨t, ht1, ht2, ht3⟩ := z
      exact least n t ht2 ht1 ht3
    · refine ⟨s, h1, hp, fun t ht1 ht3 => ?_⟩
      apply Decidable.byContradiction
      intro q
      exact z ⟨t, ht1, by omega, ht3⟩
theorem LE_add (ok : OkM k rows) {s t : Nat} (hs : 1 ≤ s) (ht : 1 ≤ t) (h : LE k rows s) (h' : LE k rows t) : LE k rows (s + t) := by
  obtain ⟨b, a, h⟩ := h
  obtain ⟨b', a', h'⟩ := h'
  exact ⟨_, _, LW.add ok hs ht (h.mono ok (Nat.le_max_left b b') (Nat.le_max_left a a')) (h'.mono ok (Nat.le_max_right b b') (Nat.le_max_right a a'))⟩
theorem LE_sub (ok : OkM k rows) {s t : Nat} (hs : 1 ≤ s) (ht : 1 ≤ t) (h : LE k rows s) (h' : LE k rows (s + t)) : LE k rows t := by
  obtain ⟨b, a, h⟩ := h
  obtain ⟨b', a', h'⟩ := h'
  exact ⟨_, _, LW.sub ok hs ht (h.mono ok (Nat.le_max_left b b') (Nat.le_max_left a a')) (h'.mono ok (Nat.le_max_right b b') (Nat.le_max_right a a'))⟩
/-- all that can be exchanged: the multiples of the least -/
theorem LE_mult (ok : OkM k rows) : (∀ s, 1 ≤ s → ¬ LE k rows s) ∨ ∃ d, 1 ≤ d ∧ ∀ s, 1 ≤ s → (LE k rows s ↔ d ∣ s) := by
  by_cases h : ∃ s, 1 ≤ s ∧ LE k rows s
  · refine .inr ?_
    obtain ⟨s, hs, hl⟩ := h
    obtain ⟨d, hd, hL, hmin⟩ := least (P := LE k rows) s s (Nat.le_refl _) hs hl
    refine ⟨d, hd, fun s hs => ⟨fun h => ?_, fun h => ?_⟩⟩
    · have : ∀ n s, s ≤ n → 1 ≤ s → LE k rows s → d ∣ s := by
        intro n
        induction n with
        | zero => intro s h1 h2; omega
        | succ n ih =>
          intro s h1 h2 h3
          have hds := hmin s h2 h3
          by_cases z : s = d
          · rw [z]; exact Nat.dvd_refl d
          · obtain ⟨t, rfl⟩ : ∃ t, s = d + t := ⟨s - d, by omega⟩
            exact (Nat.dvd_add_right (Nat.dvd_refl d)).mpr (ih t (by omega) (by omega) (LE_sub ok hd (by omega) hL h3))
      exact this s s (Nat.le_refl _) hs h
    · obtain ⟨n, rfl⟩ := h
      have : ∀ n, LE k rows (d * (n + 1)) := by
        intro n
        induction n with
        | zero => rw [Nat.zero_add, Nat.mul_one]; exact hL
        | succ n ih => rw [Nat.mul_succ]; exact LE_add ok (Nat.mul_pos hd (by omega)) hd ih hL
      cases n with
      | zero => omega
      | succ n => exact this n
  · exact .inl fun s hs z => h ⟨s, hs, z⟩
theorem lots_period {S : List Nat} {s0 p : Nat} (h : lotsF k rows S (s0 + p) = lotsF k rows S s0) : ∀ i, lotsF k rows S (s0 + i + p) = lotsF k rows S (s0 + i)
  | 0 => h
  | i + 1 => by
    have := lots_period h i
    rw [show s0 + (i + 1) + p = (s0 + i + p) + 1 by omega, show s0 + (i + 1) = (s0 + i) + 1 by omega, lotsF_succ, lotsF_succ, this]
theorem letsF_lots {b s s' a : Nat} (h : lotsF k rows (behF rows b) (s - 1) = lotsF k rows (behF rows b) (s' - 1)) : letsF k rows b s a = letsF k rows b s' a := by
  unfold letsF
  unfold lotsF at h
  have h' := List.map_inj_left.mp h
  rw [Bool.eq_iff_iff, List.all_eq_true, List.all_eq_true]
  exact ⟨fun q p hp => by rw [← h' p hp]; exact q p hp, fun q p hp => by rw [h' p hp]; exact q p hp⟩
theorem num_cs (ok : OkM k rows) {x y : Nat} (hx : Settled (behF rows) x) (hy : Settled (clsF rows) y) : (∀ s, 1 ≤ s → letsF k rows x s y = false) ∨ ∃ d, 1 ≤ d ∧ (∀ s, 1 ≤ s → (letsF k rows x s y = true ↔ d ∣ s)) ∧ ∀ s0 p, 1 ≤ p → lotsF k rows (behF rows x) (s0 + p) = lotsF k rows (behF rows x) s0 → d ∣ p := by
  rcases LE_mult ok with h | ⟨d, hd, h⟩
  · refine .inl fun s hs => ?_
    cases z : letsF k rows x s y with
    | false => rfl
    | true => exact absurd ((LE_iff ok hx hy hs).mpr z) (h s hs)
  · refine .inr ⟨d, hd, fun s hs => by rw [← LE_iff ok hx hy hs]; exact h s hs, fun s0 p hp hl => ?_⟩
    -- a multiple of d behind s0
    have hM : 1 ≤ d * (s0 + 1) := Nat.mul_pos hd (by omega)
    have hM0 : s0 + 1 ≤ d * (s0 + 1) := Nat.le_mul_of_pos_left _ hd
    have h1 : LE k rows (d * (s0 + 1)) := (h _ hM).mpr ⟨_, rfl⟩
    have h2 := (LE_iff ok hx hy hM).mp h1
    have h3 : letsF k rows x (d * (s0 + 1) + p) y = true := by
      rw [← h2]
      refine letsF_lots ?_
      have := lots_period hl (d * (s0 + 1) - 1 - s0)
      rw [show s0 + (d * (s0 + 1) - 1 - s0) + p = d * (s0 + 1) + p - 1 by omega, show s0 + (d * (s0 + 1) - 1 - s0) = d * (s0 + 1) - 1 by omega] at this
      exact this
    have h4 := (LE_iff ok hx hy (by omega)).mpr h3
    exact (h p hp).mp (LE_sub ok hM hp h1 h4)
end
end K78

/-! text M4 -/
set_option Elab.async false
set_option linter.all false
set_option maxRecDepth 100000
set_option maxHeartbeats 4000000
namespace K78
section
variable {k : Nat} {rows : List (List Nat)}
/-- the effects of words of i letters are those of words of j letters -/
def EffSub (k : Nat) (rows : List (List Nat)) (i j : Nat) : Prop := ∀ w, LetW k w → w.length = i → ∃ w', LetW k w' ∧ w'.length = j ∧ effW rows w' = effW rows w
def ERep (k : Nat) (rows : List (List Nat)) : Prop := ∃ i j, i < j ∧ j ≤ 40 ∧ EffSub k rows i j ∧ EffSub k rows j i
theorem effW_app {u u' v : List Nat} (hu : effW rows u = effW rows u') : effW rows (u ++ v) = effW rows (u' ++ v) := eff_of_run fun s hs => by rw [runW_app, runW_app, run_of_eff hu hs]
theorem reach_of (h : ERep k rows) : Reach40 k rows := by
  obtain ⟨i, j, hij, hj, _, h⟩ := h
  have : ∀ (n : Nat) (w : List Nat), w.length ≤ n → LetW k w → EffLe k rows 40 (effW rows w) := by
    intro n
    induction n with
    | zero => exact fun w h1 h2 => ⟨w, h2, by omega, rfl⟩
    | succ n ih =>
      intro w h1 h2
      by_cases z : w.length ≤ 40
      · exact ⟨w, h2, z, rfl⟩
      · have e := List.take_append_drop j w
        rw [← e] at h2
        obtain ⟨k1, k2⟩ := h2.of_append
        obtain ⟨w', l1, l2, l3⟩ := h (w.take j) k1 (by rw [List.length_take]; omega)
        have := ih (w' ++ w.drop j) (by rw [List.length_append, List.length_drop]; omega) (l1.app k2)
        rw [effW_app l3, e] at this
        exact this
  exact fun w hw => this _ w (Nat.le_refl _) hw
theorem seqF_filter (S : List Nat) (x c j : Nat) : ∃ P, seqF k rows S x c j = (pairsAll rows.length).filter P := by
  cases j with
  | zero => exact ⟨_, rfl⟩
  | succ j => exact ⟨_, rfl⟩
theorem filter_same {α : Type} {l : List α} {P R : α → Bool} (h : ∀ a, a ∈ l.filter P ↔ a ∈ l.filter R) : l.filter P = l.filter R := by
  refine List.filter_congr fun a ha => ?_
  have := h a
  rw [List.mem_filter, List.mem_filter] at this
  rw [Bool.eq_iff_iff]
  exact ⟨fun z => (this.mp ⟨ha, z⟩).2, fun z => (this.mpr ⟨ha, z⟩).2⟩
theorem seqF_rep (ok : OkM k rows) {S : List Nat} (hS : ∀ s ∈ S, s < rows.length) {i j : Nat} (h1 : EffSub k rows i j) (h2 : EffSub k rows j i) {x c : Nat} (hx : x < k) (hc : c < k) : seqF k rows S x c j = seqF k rows S x c i := by
  have sub : ∀ {i j : Nat}, EffSub k rows i j → ∀ q, q ∈ seqF k rows S x c i → q ∈ seqF k rows S x c j := by
    intro i j h q hq
    obtain ⟨t, ht, w, hw, hl, rfl⟩ := (mem_seqF ok hS hx hc).mp hq
    obtain ⟨w', l1, l2, l3⟩ := h w hl hw
    refine (mem_seqF ok hS hx hc).mpr ⟨t, ht, w', l2, l1, ?_⟩
    rw [runW_cons, runW_cons, runW_cons, runW_cons, run_of_eff l3 (at2_lt ok (hS t ht) hx), run_of_eff l3 (at2_lt ok (hS t ht) hc)]
  obtain ⟨P, hP⟩ := seqF_filter (k := k) (rows := rows) S x c j
  obtain ⟨R, hR⟩ := seqF_filter (k := k) (rows := rows) S x c i
  have : ∀ a, a ∈ seqF k rows S x c j ↔ a ∈ seqF k rows S x c i := fun a => ⟨sub h2 a, sub h1 a⟩
  rw [hP, hR] at this ⊢
  exact filter_same this
theorem round_of (ok : OkM k rows) (h : ERep k rows) {S : List Nat} (hS : ∀ s ∈ S, s < rows.length) : ∃ i j, i < j ∧ j ≤ 40 ∧ lotsF k rows S j = lotsF k rows S i := by
  obtain ⟨i, j, hij, hj, h1, h2⟩ := h
  refine ⟨i, j, hij, hj, List.map_congr_left fun p hp => ?_⟩
  obtain ⟨a1, a2⟩ := mem_unlike.mp hp
  exact seqF_rep ok hS h1 h2 (by omega) a2
theorem numPre_of (ok : OkM k rows) (h : ERep k rows) : NumPre k rows := by
  refine ⟨fun x hx => ?_, fun x y hx hy => num_cs ok hx hy⟩
  obtain ⟨i, j, hij, hj, hl⟩ := round_of ok h (behF_lt x)
  exact ⟨i, j, hij, by omega, hl⟩
theorem eRep_mir (ok : OkM k rows) {E : List (List Nat)} (hE : AllEff k rows E) (h : ERep k rows) : ERep k (mirF k rows E) := by
  have sub : ∀ {i j : Nat}, EffSub k rows i j → EffSub k (mirF k rows E) i j := by
    intro i j h w hl hw
    obtain ⟨w', l1, l2, l3⟩ := h w.reverse hl.rev (by simp [hw])
    refine ⟨w'.reverse, l1.rev, by simp [l2], eff_of_run fun s hs => ?_⟩
    obtain ⟨v, hv, rfl⟩ := mir_all ok hE hs
    rw [mir_run ok hE hv l1.rev, mir_run ok hE hv hl, List.reverse_reverse]
    unfold ixE
    rw [effW_app l3]
  obtain ⟨i, j, hij, hj, h1, h2⟩ := h
  exact ⟨i, j, hij, hj, sub h1, sub h2⟩
end
end K78

/-! text M5 -/
set_option Elab.async false
set_option linter.all false
set_option maxRecDepth 100000
set_option maxHeartbeats 4000000
namespace K78
section
variable {k : Nat} {rows : List (List Nat)}
theorem settled_ex {α : Type} {f : Nat → α} {F : α → α} (hf : ∀ j, f (j + 1) = F (f j)) {B : Nat} (h : ∀ x, (∀ i < x, f (i + 1) ≠ f i) → x ≤ B) : ∃ x, Settled f x ∧ x ≤ B := by
  have : ∀ n, (∃ x, x ≤ n ∧ Settled f x) ∨ ∀ i ≤ n, f (i + 1) ≠ f i := by
    intro n
    induction n with
    | zero =>
      by_cases z : f 1 = f 0
      · exact .inl ⟨0, Nat.le_refl _, fun i hi => by omega, z⟩
      · exact .inr fun i hi => by rw [show i = 0 by omega]; exact z
    | succ n ih =>
      rcases ih with ⟨x, hx, hs⟩ | h
      · exact .inl ⟨x, by omega, hs⟩
      · by_cases z : f (n + 1 + 1) = f (n + 1)
        · exact .inl ⟨n + 1, Nat.le_refl _, fun i hi => h i (by omega), z⟩
        · refine .inr fun i hi => ?_
          by_cases q : i = n + 1
          · rw [q]; exact z
          · exact h i (by omega)
  rcases this (B + 1) with ⟨x, _, hs⟩ | h'
  · exact ⟨x, hs, h x hs.1⟩
  · have := h (B + 2) fun i hi => h' i (by omega)
    omega
theorem beh_settles (ok : OkS k rows) : ∃ x, Settled (behF rows) x ∧ x ≤ 40 := settled_ex (F := onwF rows) (fun _ => rfl) fun x h => by have := behF_few ok h; omega
theorem cls_settles (ok : OkS k rows) : ∃ y, Settled (clsF rows) y ∧ y ≤ 1600 := settled_ex (F := coarsF rows) (fun _ => rfl) fun x h => by have := clsF_few ok h; omega
theorem num_small (ok : OkS k rows) (h : ERep k rows) {f l d : Nat} (hn : NumW k rows (some (f, l, d))) : f ≤ 40 ∧ l ≤ 1600 ∧ d ≤ 40 := by
  obtain ⟨x, hx, hx40⟩ := beh_settles ok
  obtain ⟨y, hy, hy16⟩ := cls_settles ok
  obtain ⟨hd, h1, h2, h3, h4, h5⟩ := hn
  have hL : letsF k rows x d y = true := (LE_iff ok.m hx hy hd).mp ((h1 d hd).mpr (Nat.dvd_refl d))
  have hLW := (letsF_iff ok.m hd).mp hL
  refine ⟨?_, ?_, ?_⟩
  · apply Decidable.byContradiction; intro z
    exact h3 x (by omega) y hLW
  · apply Decidable.byContradiction; intro z
    exact h5 y (by omega) x hLW
  · obtain ⟨i, j, hij, hj, hl⟩ := round_of ok.m h (behF_lt x)
    rcases num_cs ok.m hx hy with q | ⟨d', hd', q1, q2⟩
    · rw [q d hd] at hL; cases hL
    · have e : d' ∣ d := (q1 d hd).mp hL
      have e2 : d ∣ d' := (h1 d' hd').mp ((LE_iff ok.m hx hy hd').mpr ((q1 d' hd').mpr (Nat.dvd_refl d')))
      have := q2 i (j - i) (by omega) (by rw [show i + (j - i) = j by omega]; exact hl)
      have := Nat.le_of_dvd (by omega) (Nat.dvd_trans e2 this)
      omega
theorem lawOk_of {tr : Option (Nat × Nat × Nat)} (ok : OkM k rows) (n5 : rows.length ≤ 5) (k3 : k ≤ 3) (h : ERep k rows) (ht : ∀ t, tr = some t → NumW k rows (some t)) : LawOk k rows tr := by
  have oS : OkS k rows := ⟨ok, by omega⟩
  refine ⟨ok, n5, k3, reach_of h, numPre_of ok h, fun r hr => ⟨fun t e => numW_uniq (numW_of ok hr) (ht t e), fun f l d e => ?_⟩, fun E hE hfew => ?_, fun E hE w hw => ?_⟩
  · subst e
    have := num_small oS h (numW_of ok hr)
    omega
  · have mok := mir_ok hE ok n5
    have hml : (mirF k rows E).length = E.length := by rw [mirF, List.length_map]
    have h40 : E.length ≤ 40 := by
      apply Decidable.byContradiction; intro z
      have h1 : 41 * 41 ≤ E.length * E.length := Nat.mul_le_mul (by omega) (by omega)
      have h2 : E.length * E.length ≤ E.length * E.length * k := Nat.le_mul_of_pos_right _ ok.k1
      omega
    refine ⟨⟨mok, by omega⟩, numPre_of mok (eRep_mir ok hE h), fun r r' hr hr' => ?_, fun b s a _ hs _ _ => ?_⟩
    · exact numW_uniq (numW_of mok hr') (numW_mir ok hE (numW_of ok hr))
    · rw [Bool.eq_iff_iff, letsF_iff mok hs, mayB_iff ok hs]
      exact mir_LW ok hE
  · have e : E.idxOf (List.range rows.length) = ixE rows E [] := by unfold ixE; rw [effW_nil]
    have e2 := mir_run ok hE (v := []) .nil hw
    rw [List.append_nil] at e2
    rw [e]
    refine ⟨by rw [e2]; exact ixE_lt ok hE hw.rev, ?_⟩
    simp only [e2]
    exact ixE_get ok hE hw.rev
end
end K78

/-! text M6 -/
set_option Elab.async false
set_option linter.all false
set_option maxRecDepth 100000
set_option maxHeartbeats 4000000
namespace K78
section
variable {k : Nat} {rows : List (List Nat)} {m : List Nat}
theorem getD_get {α : Type} {l : List α} {i : Nat} (h : i < l.length) (d : α) : l.getD i d = l[i] := by rw [List.getD_eq_getElem?_getD, List.getElem?_eq_getElem h]; rfl
structure Ren (m : List Nat) (n : Nat) : Prop where
  len : m.length = n
  lt : ∀ s < n, m.getD s 0 < n
  inj : ∀ s t, s < n → t < n → m.getD s 0 = m.getD t 0 → s = t
  sur : ∀ t < n, ∃ s < n, t = m.getD s 0
theorem ren_of {n : Nat} (h : m.Perm (List.range n)) : Ren m n := by
  have hl : m.length = n := by rw [h.length_eq]; simp
  have hnd : m.Nodup := h.nodup_iff.mpr List.nodup_range
  have hm : ∀ x, x ∈ m ↔ x < n := fun x => by rw [h.mem_iff]; simp
  have ge : ∀ s (hs : s < n), m.getD s 0 = m[s]'(by omega) := fun s hs => by simp [List.getD, show s < m.length by omega]
  refine ⟨hl, fun s hs => ?_, fun s t hs ht e => ?_, fun t ht => ?_⟩
  · rw [ge s hs]; exact (hm _).mp (List.getElem_mem _)
  · rw [ge s hs, ge t ht] at e
    have h1 := hnd.idxOf_getElem s (by omega)
    have h2 := hnd.idxOf_getElem t (by omega)
    rw [e] at h1
    exact h1.symm.trans h2
  · obtain ⟨s, hs, e⟩ := List.mem_iff_getElem.mp ((hm t).mpr ht)
    exact ⟨s, by omega, by rw [ge s (by omega)]; exact e.symm⟩
theorem named_at (R : Ren m rows.length) : ∀ (i : Nat), i ≤ rows.length → ∀ s < i, (namedF m rows i).getD (m.getD s 0) [] = (rows.getD s []).map (m.getD · 0)
  | 0, _, s, hs => by omega
  | i + 1, hi, s, hs => by
    show ((namedF m rows i).set (m.getD i 0) ((rows.getD i []).map (m.getD · 0))).getD (m.getD s 0) [] = _
    have hl := namedF_len m rows i
    by_cases z : s = i
    · subst z
      have := R.lt s (by omega)
      simp [List.getD, hl] at this ⊢
      rw [List.getElem?_set_self (by rw [hl]; exact this)]
      rfl
    · have hne : m.getD i 0 ≠ m.getD s 0 := fun e => z (R.inj i s (by omega) (by omega) e).symm
      have ih := named_at R i (by omega) s (by omega)
      rw [← ih]
      simp only [List.getD]
      simp only [List.getD] at hne
      rw [List.getElem?_set_ne hne]
theorem ren_len : (renF m rows).length = rows.length := namedF_len m rows _
theorem ren_at2 (ok : OkM k rows) (R : Ren m rows.length) {s c : Nat} (hs : s < rows.length) (hc : c < k) : at2 (renF m rows) (m.getD s 0) c = m.getD (at2 rows s c) 0 := by
  have hl := ok.rl _ (List.getElem_mem hs)
  unfold at2
  rw [named_at R rows.length (Nat.le_refl _) s hs]
  have e : rows.getD s [] = rows[s] := by simp [List.getD, hs]
  rw [e]
  simp [List.getD, show c < rows[s].length by omega]
theorem ren_run (ok : OkM k rows) (R : Ren m rows.length) : ∀ {w : List Nat} {s : Nat}, s < rows.length → LetW k w → runW (renF m rows) (m.getD s 0) w = m.getD (runW rows s w) 0
  | [], s, _, _ => rfl
  | c :: w, s, hs, hw => by
    obtain ⟨h1, h2⟩ := hw.of_cons
    rw [runW_cons, ren_at2 ok R hs h1, ren_run ok R (at2_lt ok hs h1) h2]
    rfl
theorem ren_LW (ok : OkM k rows) (R : Ren m rows.length) {b s a : Nat} : LW k (renF m rows) b s a ↔ LW k rows b s a := by
  constructor
  · intro h s0 h0 u hu hul x hx c hc w hw hwl v hv hvl
    have := h (m.getD s0 0) (by rw [ren_len]; exact R.lt s0 h0) u hu hul x hx c hc w hw hwl v hv hvl
    have l1 := hul.app (.cons hx (hwl.app (.cons hc hvl)))
    have l2 := hul.app (.cons hc (hwl.app (.cons hx hvl)))
    rw [ren_run ok R h0 l1, ren_run ok R h0 l2] at this
    exact R.inj _ _ (runW_lt ok h0 l1) (runW_lt ok h0 l2) this
  · intro h t ht u hu hul x hx c hc w hw hwl v hv hvl
    rw [ren_len] at ht
    obtain ⟨s0, h0, rfl⟩ := R.sur t ht
    rw [ren_run ok R h0 (hul.app (.cons hx (hwl.app (.cons hc hvl)))), ren_run ok R h0 (hul.app (.cons hc (hwl.app (.cons hx hvl)))), h s0 h0 u hu hul x hx c hc w hw hwl v hv hvl]
theorem ren_eRep (ok : OkM k rows) (R : Ren m rows.length) (h : ERep k rows) : ERep k (renF m rows) := by
  have sub : ∀ {i j : Nat}, EffSub k rows i j → EffSub k (renF m rows) i j := by
    intro i j h w hl hw
    obtain ⟨w', l1, l2, l3⟩ := h w hl hw
    refine ⟨w', l1, l2, eff_of_run fun t ht => ?_⟩
    rw [ren_len] at ht
    obtain ⟨s0, h0, rfl⟩ := R.sur t ht
    rw [ren_run ok R h0 l1, ren_run ok R h0 hl, run_of_eff l3 h0]
  obtain ⟨i, j, hij, hj, h1, h2⟩ := h
  exact ⟨i, j, hij, hj, sub h1, sub h2⟩
theorem ren_numW (ok : OkM k rows) (R : Ren m rows.length) {r : Option (Nat × Nat × Nat)} (h : NumW k rows r) : NumW k (renF m rows) r := by
  have le : ∀ s, LE k (renF m rows) s ↔ LE k rows s := fun s => ⟨fun ⟨b, a, z⟩ => ⟨b, a, (ren_LW ok R).mp z⟩, fun ⟨b, a, z⟩ => ⟨b, a, (ren_LW ok R).mpr z⟩⟩
  match r, h with
  | none, h => exact fun s hs z => h s hs ((le s).mp z)
  | some (f, l, d), ⟨hd, h1, h2, h3, h4, h5⟩ =>
    refine ⟨hd, fun s hs => (le s).trans (h1 s hs), ?_, fun j hj a z => h3 j hj a ((ren_LW ok R).mp z), ?_, fun j hj b z => h5 j hj b ((ren_LW ok R).mp z)⟩
    · obtain ⟨a, ha⟩ := h2; exact ⟨a, (ren_LW ok R).mpr ha⟩
    · obtain ⟨b, hb⟩ := h4; exact ⟨b, (ren_LW ok R).mpr hb⟩
theorem ren_ok (ok : OkM k rows) (R : Ren m rows.length) : OkM k (renF m rows) := by
  have row : ∀ r ∈ renF m rows, ∃ s < rows.length, r = (rows.getD s []).map (m.getD · 0) := by
    intro r hr
    obtain ⟨t, ht, rfl⟩ := List.mem_iff_getElem.mp hr
    have ht' : t < rows.length := by rw [ren_len] at ht; exact ht
    obtain ⟨s, hs, rfl⟩ := R.sur t ht'
    refine ⟨s, hs, ?_⟩
    rw [← named_at R rows.length (Nat.le_refl _) s hs]
    exact (getD_get ht []).symm
  refine ⟨ok.k1, ok.k9, by rw [ren_len]; exact ok.n1, by rw [ren_len]; exact ok.n9, fun r hr => ?_, fun r hr t ht => ?_⟩
  · obtain ⟨s, hs, rfl⟩ := row r hr
    have e : rows.getD s [] = rows[s] := by simp [List.getD, hs]
    rw [e, List.length_map]
    exact ok.rl _ (List.getElem_mem hs)
  · obtain ⟨s, hs, rfl⟩ := row r hr
    have e : rows.getD s [] = rows[s] := by simp [List.getD, hs]
    rw [e] at ht
    obtain ⟨x, hx, rfl⟩ := List.mem_map.mp ht
    rw [ren_len]
    exact R.lt _ (ok.rb _ (List.getElem_mem hs) x hx)
end
end K78

/-! text M7 -/
set_option Elab.async false
set_option linter.all false
set_option maxRecDepth 100000
set_option maxHeartbeats 4000000
namespace K78
/-! ### the effects of words of t letters, computed -/
def eqR : List Nat → List Nat → Bool
  | [], [] => true
  | a :: l, b :: m => Nat.beq a b && eqR l m
  | _, _ => false
def inR (e : List Nat) : List (List Nat) → Bool
  | [] => false
  | a :: l => eqR e a || inR e l
def addR (e : List Nat) (l : List (List Nat)) : List (List Nat) := bif inR e l then l else e :: l
theorem eqR_iff : ∀ {a b : List Nat}, eqR a b = true ↔ a = b
  | [], [] => by simp [eqR]
  | [], _ :: _ => by simp [eqR]
  | _ :: _, [] => by simp [eqR]
  | a :: l, b :: m => by simp [eqR, eqR_iff (a := l) (b := m)]
theorem inR_iff {e : List Nat} : ∀ {l : List (List Nat)}, inR e l = true ↔ e ∈ l
  | [] => by simp [inR]
  | a :: l => by simp [inR, inR_iff (l := l), eqR_iff]
theorem mem_addR {e x : List Nat} {l : List (List Nat)} : x ∈ addR e l ↔ x = e ∨ x ∈ l := by
  unfold addR
  cases h : inR e l with
  | true => simp; rintro rfl; exact inR_iff.mp h
  | false => simp
/-- one more letter, all commands (given as columns) -/
def getN : List Nat → Nat → Nat
  | [], _ => 0
  | a :: _, 0 => a
  | _ :: l, i + 1 => getN l i
theorem getN_eq : ∀ (l : List Nat) (i : Nat), getN l i = l.getD i 0
  | [], _ => rfl
  | a :: _, 0 => rfl
  | _ :: l, i + 1 => by rw [getN, getN_eq l i]; simp
def stepAll (cols : List (List Nat)) (l : List (List Nat)) : List (List Nat) := l.foldr (fun e acc => cols.foldr (fun col acc => addR (e.map (getN col)) acc) acc) []
def layR (n : Nat) (cols : List (List Nat)) : Nat → List (List Nat)
  | 0 => [List.range n]
  | t + 1 => stepAll cols (layR n cols t)
theorem mem_fold1 {e x : List Nat} : ∀ {cols acc : List (List Nat)}, x ∈ cols.foldr (fun col acc => addR (e.map (getN col)) acc) acc ↔ (∃ col ∈ cols, x = e.map (getN col)) ∨ x ∈ acc
  | [], acc => by simp
  | c :: cols, acc => by
    rw [List.foldr_cons, mem_addR, mem_fold1 (cols := cols)]
    simp [or_assoc]
theorem mem_stepAll {cols : List (List Nat)} {x : List Nat} : ∀ {l : List (List Nat)}, x ∈ stepAll cols l ↔ ∃ e ∈ l, ∃ col ∈ cols, x = e.map (getN col)
  | [] => by simp [stepAll]
  | e :: l => by
    show x ∈ cols.foldr _ (stepAll cols l) ↔ _
    rw [mem_fold1, mem_stepAll (l := l)]
    simp
def subR (a b : List (List Nat)) : Bool := a.all fun e => inR e b
theorem subR_iff {a b : List (List Nat)} : subR a b = true ↔ ∀ e ∈ a, e ∈ b := by
  unfold subR
  rw [List.all_eq_true]
  exact ⟨fun h e he => inR_iff.mp (h e he), fun h e he => inR_iff.mpr (h e he)⟩
def colsOf (k : Nat) (rows : List (List Nat)) : List (List Nat) := (List.range k).map fun c => rows.map fun r => getN r c
section
variable {k : Nat} {rows : List (List Nat)}
theorem cols_at {c s : Nat} (hs : s < rows.length) : getN (rows.map fun r => getN r c) s = at2 rows s c := by
  rw [getN_eq, getD_get (by rw [List.length_map]; exact hs), List.getElem_map, getN_eq]
  unfold at2
  rw [getD_get hs]
theorem mem_layR (ok : OkM k rows) : ∀ {t : Nat} {x : List Nat}, x ∈ layR rows.length (colsOf k rows) t ↔ ∃ w, LetW k w ∧ w.length = t ∧ x = effW rows w
  | 0, x => by
    show x ∈ [List.range rows.length] ↔ _
    rw [List.mem_singleton]
    constructor
    · rintro rfl; exact ⟨[], .nil, rfl, effW_nil.symm⟩
    · rintro ⟨w, _, hw, rfl⟩
      rw [List.eq_nil_of_length_eq_zero hw, effW_nil]
  | t + 1, x => by
    show x ∈ stepAll _ (layR _ _ t) ↔ _
    rw [mem_stepAll]
    have st : ∀ (w : List Nat) (c : Nat), LetW k w → (effW rows w).map (getN (rows.map fun r => getN r c)) = effW rows (w ++ [c]) := by
      intro w c hw
      rw [effW_snoc]
      unfold stepF
      refine List.map_congr_left fun s hs => cols_at ?_
      obtain ⟨z, hz, rfl⟩ := List.mem_map.mp hs
      exact runW_lt ok (List.mem_range.mp hz) hw
    constructor
    · rintro ⟨e, he, col, hcol, rfl⟩
      obtain ⟨w, h1, h2, rfl⟩ := (mem_layR ok).mp he
      obtain ⟨c, hc, rfl⟩ := List.mem_map.mp hcol
      exact ⟨w ++ [c], h1.app (.cons (List.mem_range.mp hc) .nil), by simp [h2], st w c h1⟩
    · rintro ⟨w, h1, h2, rfl⟩
      rcases List.eq_nil_or_concat w with rfl | ⟨u, c, rfl⟩
      · cases h2
      · rw [List.concat_eq_append] at *
        obtain ⟨k1, k2⟩ := h1.of_append
        exact ⟨effW rows u, (mem_layR ok).mpr ⟨u, k1, by simp at h2; omega, rfl⟩, _, List.mem_map.mpr ⟨c, List.mem_range.mpr k2.of_cons.1, rfl⟩, (st u c k1).symm⟩
theorem effSub_of (ok : OkM k rows) {i j : Nat} (h : subR (layR rows.length (colsOf k rows) i) (layR rows.length (colsOf k rows) j) = true) : EffSub k rows i j := by
  intro w hw hl
  obtain ⟨w', h1, h2, h3⟩ := (mem_layR ok).mp (subR_iff.mp h _ ((mem_layR ok).mpr ⟨w, hw, hl, rfl⟩))
  exact ⟨w', h1, h2, h3.symm⟩
end
end K78

/-! text M8 -/
set_option Elab.async false
set_option linter.all false
set_option maxRecDepth 100000
set_option maxHeartbeats 4000000
namespace K78
def sameR (a b : List (List Nat)) : Bool := Nat.beq a.length b.length && (subR a b && subR b a)
def repGo (cols : List (List Nat)) : Nat → List (List Nat) → List (List (List Nat)) → Bool
  | 0, _, _ => false
  | f + 1, cur, hist => (hist.any fun h => sameR h cur) || repGo cols f (stepAll cols cur) (cur :: hist)
def repB (n : Nat) (cols : List (List Nat)) : Bool := repGo cols 41 [List.range n] []
theorem repGo_iff {n : Nat} {cols : List (List Nat)} : ∀ (f t : Nat) (hist : List (List (List Nat))), t + f ≤ 41 → (∀ h ∈ hist, ∃ i < t, h = layR n cols i) → repGo cols f (layR n cols t) hist = true → ∃ i j, i < j ∧ j ≤ 40 ∧ subR (layR n cols i) (layR n cols j) = true ∧ subR (layR n cols j) (layR n cols i) = true
  | 0, t, hist, _, _, h => by simp [repGo] at h
  | f + 1, t, hist, ht, hh, h => by
    rw [repGo, Bool.or_eq_true] at h
    rcases h with h | h
    · obtain ⟨a, ha, hs⟩ := List.any_eq_true.mp h
      obtain ⟨i, hi, rfl⟩ := hh a ha
      unfold sameR at hs
      rw [Bool.and_eq_true, Bool.and_eq_true] at hs
      exact ⟨i, t, hi, by omega, hs.2.1, hs.2.2⟩
    · refine repGo_iff f (t + 1) _ (by omega) (fun a ha => ?_) h
      rcases List.mem_cons.mp ha with rfl | ha
      · exact ⟨t, by omega, rfl⟩
      · obtain ⟨i, hi, e⟩ := hh a ha
        exact ⟨i, by omega, e⟩
theorem eRep_of {k : Nat} {rows : List (List Nat)} (ok : OkM k rows) (h : repB rows.length (colsOf k rows) = true) : ERep k rows := by
  obtain ⟨i, j, hij, hj, h1, h2⟩ := repGo_iff (n := rows.length) (cols := colsOf k rows) 41 0 [] (by omega) (fun h hh => by cases hh) h
  exact ⟨i, j, hij, hj, effSub_of ok h1, effSub_of ok h2⟩
def tabs2 (n : Nat) : List (List (List Nat)) := (allRows n n).flatMap fun a => (allRows n n).map fun b => [a, b]
def tabs1 (n : Nat) : List (List (List Nat)) := (allRows n n).map fun a => [a]
theorem tabs_2 : (tabs2 2).all (repB 2) = true := by decide +kernel
theorem tabs_1 : (tabs2 1).all (repB 1) = true := by decide +kernel
theorem tabs_3a : (tabs1 3).all (repB 3) = true := by decide +kernel
end K78

/-! text M9 -/
set_option Elab.async false
set_option linter.all false
set_option maxRecDepth 100000
set_option maxHeartbeats 4000000
namespace K78
/-! ### three states: sets of effects as bits -/
def lookC (a : List Nat) (c : Nat) : Nat := Nat.add (getN a (Nat.mod c 3)) (Nat.add (Nat.mul 3 (getN a (Nat.mod (Nat.div c 3) 3))) (Nat.mul 9 (getN a (Nat.div c 9))))
def bitC (m c : Nat) : Bool := Nat.beq (Nat.mod (Nat.shiftRight m c) 2) 1
noncomputable def stepC (a b : List Nat) (m : Nat) (n : Nat) : Nat := Nat.rec (motive := fun _ => Nat) 0 (fun c r => bif bitC m c then Nat.lor r (Nat.lor (Nat.shiftLeft 1 (lookC a c)) (Nat.shiftLeft 1 (lookC b c))) else r) n
noncomputable def frc (m : Nat) (f : Nat → Bool) : Bool := Nat.rec (motive := fun _ => Bool) (f 0) (fun n _ => f (Nat.succ n)) m
theorem frc_eq (m : Nat) (f : Nat → Bool) : frc m f = f m := by cases m <;> rfl
noncomputable def repC (a b : List Nat) (n : Nat) : Nat → List Nat → Bool := Nat.rec (motive := fun _ => Nat → List Nat → Bool) (fun _ _ => false) (fun _ r m hist => bif hist.any (Nat.beq m) then true else frc (stepC a b m 27) fun m' => r m' (m :: hist)) n
noncomputable def repC3 (p : List (List Nat)) : Bool := match p with
  | [a, b] => repC a b 41 (Nat.shiftLeft 1 21) []
  | _ => false
theorem bitC_iff {m c : Nat} : bitC m c = m.testBit c := by
  rw [Nat.testBit_eq_decide_div_mod_eq, ← Nat.shiftRight_eq_div_pow]
  show Nat.beq ((m >>> c) % 2) 1 = _
  rw [Bool.eq_iff_iff, Nat.beq_eq, decide_eq_true_eq]
theorem stepC_iff {a b : List Nat} {m : Nat} : ∀ {n d : Nat}, (stepC a b m n).testBit d = true ↔ ∃ c < n, m.testBit c = true ∧ (d = lookC a c ∨ d = lookC b c)
  | 0, d => by
    show (Nat.testBit 0 d = true) ↔ _
    rw [Nat.zero_testBit]
    constructor
    · intro h; cases h
    · rintro ⟨c, hc, _⟩; omega
  | n + 1, d => by
    show ((bif bitC m n then (stepC a b m n) ||| ((1 <<< lookC a n) ||| (1 <<< lookC b n)) else stepC a b m n).testBit d = true) ↔ _
    rw [bitC_iff]
    have ih := stepC_iff (a := a) (b := b) (m := m) (n := n) (d := d)
    cases hb : m.testBit n with
    | false =>
      show (stepC a b m n).testBit d = true ↔ _
      rw [ih]
      constructor
      · rintro ⟨c, hc, h⟩; exact ⟨c, by omega, h⟩
      · rintro ⟨c, hc, h1, h2⟩
        by_cases z : c = n
        · subst z; rw [hb] at h1; cases h1
        · exact ⟨c, by omega, h1, h2⟩
    | true =>
      show ((stepC a b m n) ||| ((1 <<< lookC a n) ||| (1 <<< lookC b n))).testBit d = true ↔ _
      rw [Nat.testBit_or, Nat.testBit_or, Nat.one_shiftLeft, Nat.one_shiftLeft, Nat.testBit_two_pow, Nat.testBit_two_pow, Bool.or_eq_true, Bool.or_eq_true, ih, decide_eq_true_eq, decide_eq_true_eq]
      constructor
      · rintro (⟨c, hc, h⟩ | h | h)
        · exact ⟨c, by omega, h⟩
        · exact ⟨n, by omega, hb, .inl h.symm⟩
        · exact ⟨n, by omega, hb, .inr h.symm⟩
      · rintro ⟨c, hc, h1, h2⟩
        by_cases z : c = n
        · subst z
          exact .inr (h2.imp Eq.symm Eq.symm)
        · exact .inl ⟨c, by omega, h1, h2⟩
def cod : List Nat → Nat
  | [x, y, z] => x + 3 * y + 9 * z
  | _ => 27
def Eff3 (e : List Nat) : Prop := ∃ x y z, e = [x, y, z] ∧ x < 3 ∧ y < 3 ∧ z < 3
theorem eff3_of {e : List Nat} (h : e.length = 3) (hb : ∀ s ∈ e, s < 3) : Eff3 e := by
  match e, h with
  | [x, y, z], _ => exact ⟨x, y, z, rfl, hb x (by simp), hb y (by simp), hb z (by simp)⟩
theorem get3 {a : List Nat} (ha : Eff3 a) {i : Nat} (hi : i < 3) : getN a i < 3 := by
  obtain ⟨x, y, z, rfl, h1, h2, h3⟩ := ha
  have : i = 0 ∨ i = 1 ∨ i = 2 := by omega
  rcases this with rfl | rfl | rfl
  · exact h1
  · exact h2
  · exact h3
theorem look_cod {a e : List Nat} (he : Eff3 e) : lookC a (cod e) = cod (e.map (getN a)) := by
  obtain ⟨x, y, z, rfl, h1, h2, h3⟩ := he
  have e1 : (x + 3 * y + 9 * z) % 3 = x := by omega
  have e2 : (x + 3 * y + 9 * z) / 3 % 3 = y := by omega
  have e3 : (x + 3 * y + 9 * z) / 9 = z := by omega
  show getN a ((x + 3 * y + 9 * z) % 3) + (3 * getN a ((x + 3 * y + 9 * z) / 3 % 3) + 9 * getN a ((x + 3 * y + 9 * z) / 9)) = getN a x + 3 * getN a y + 9 * getN a z
  rw [e1, e2, e3]
  omega
theorem map3 {a e : List Nat} (ha : Eff3 a) (he : Eff3 e) : Eff3 (e.map (getN a)) := by
  obtain ⟨x, y, z, rfl, h1, h2, h3⟩ := he
  exact ⟨_, _, _, rfl, get3 ha h1, get3 ha h2, get3 ha h3⟩
theorem cod_lt {e : List Nat} (he : Eff3 e) : cod e < 27 := by
  obtain ⟨x, y, z, rfl, h1, h2, h3⟩ := he
  show x + 3 * y + 9 * z < 27
  omega
theorem cod_inj {e e' : List Nat} (he : Eff3 e) (he' : Eff3 e') (h : cod e = cod e') : e = e' := by
  obtain ⟨x, y, z, rfl, h1, h2, h3⟩ := he
  obtain ⟨x', y', z', rfl, k1, k2, k3⟩ := he'
  have h : x + 3 * y + 9 * z = x' + 3 * y' + 9 * z' := h
  have : x = x' ∧ y = y' ∧ z = z' := by omega
  rw [this.1, this.2.1, this.2.2]
section
variable {a b : List Nat}
theorem all3 (ha : Eff3 a) (hb : Eff3 b) {L : List (List Nat)} (h : ∀ e ∈ L, Eff3 e) : ∀ e ∈ stepAll [a, b] L, Eff3 e := by
  intro e he
  obtain ⟨e', h1, col, h2, rfl⟩ := mem_stepAll.mp he
  simp only [List.mem_cons, List.not_mem_nil, or_false] at h2
  rcases h2 with rfl | rfl
  · exact map3 ha (h e' h1)
  · exact map3 hb (h e' h1)
theorem lay3 (ha : Eff3 a) (hb : Eff3 b) : ∀ t, ∀ e ∈ layR 3 [a, b] t, Eff3 e
  | 0, e, he => by
    have : e ∈ [[0, 1, 2]] := he
    rw [List.mem_singleton] at this
    exact ⟨0, 1, 2, this, by decide, by decide, by decide⟩
  | t + 1, e, he => all3 ha hb (lay3 ha hb t) e he
def Mk (m : Nat) (L : List (List Nat)) : Prop := ∀ d, m.testBit d = true ↔ ∃ e ∈ L, cod e = d
theorem mk0 : Mk (Nat.shiftLeft 1 21) (layR 3 [a, b] 0) := by
  intro d
  show ((1 <<< 21).testBit d = true) ↔ ∃ e ∈ [[0, 1, 2]], cod e = d
  rw [Nat.one_shiftLeft, Nat.testBit_two_pow, decide_eq_true_eq]
  constructor
  · rintro rfl; exact ⟨_, List.mem_singleton.mpr rfl, rfl⟩
  · rintro ⟨e, he, rfl⟩
    rw [List.mem_singleton.mp he]; rfl
theorem mk_step {m : Nat} {L : List (List Nat)} (h3 : ∀ e ∈ L, Eff3 e) (h : Mk m L) : Mk (stepC a b m 27) (stepAll [a, b] L) := by
  intro d
  rw [stepC_iff]
  constructor
  · rintro ⟨c, hc, h1, h2⟩
    obtain ⟨e, he, rfl⟩ := (h c).mp h1
    rw [look_cod (h3 e he), look_cod (h3 e he)] at h2
    rcases h2 with rfl | rfl
    · exact ⟨_, mem_stepAll.mpr ⟨e, he, a, by simp, rfl⟩, rfl⟩
    · exact ⟨_, mem_stepAll.mpr ⟨e, he, b, by simp, rfl⟩, rfl⟩
  · rintro ⟨x, hx, rfl⟩
    obtain ⟨e, he, col, h2, rfl⟩ := mem_stepAll.mp hx
    refine ⟨cod e, cod_lt (h3 e he), (h _).mpr ⟨e, he, rfl⟩, ?_⟩
    rw [look_cod (h3 e he), look_cod (h3 e he)]
    simp only [List.mem_cons, List.not_mem_nil, or_false] at h2
    rcases h2 with rfl | rfl
    · exact .inl rfl
    · exact .inr rfl
theorem mk_same {m : Nat} {L L' : List (List Nat)} (h3 : ∀ e ∈ L, Eff3 e) (h3' : ∀ e ∈ L', Eff3 e) (h : Mk m L) (h' : Mk m L') : subR L L' = true := by
  refine subR_iff.mpr fun e he => ?_
  obtain ⟨e', he', hc⟩ := (h' (cod e)).mp ((h (cod e)).mpr ⟨e, he, rfl⟩)
  rw [← cod_inj (h3' e' he') (h3 e he) hc]
  exact he'
theorem repC_iff (ha : Eff3 a) (hb : Eff3 b) : ∀ (f t m : Nat) (hist : List Nat), t + f ≤ 41 → Mk m (layR 3 [a, b] t) → (∀ h ∈ hist, ∃ i < t, Mk h (layR 3 [a, b] i)) → repC a b f m hist = true → ∃ i j, i < j ∧ j ≤ 40 ∧ subR (layR 3 [a, b] i) (layR 3 [a, b] j) = true ∧ subR (layR 3 [a, b] j) (layR 3 [a, b] i) = true
  | 0, t, m, hist, _, _, _, h => by cases h
  | f + 1, t, m, hist, ht, hm, hh, h => by
    have h : (bif hist.any (Nat.beq m) then true else frc (stepC a b m 27) fun m' => repC a b f m' (m :: hist)) = true := h
    cases q : hist.any (Nat.beq m) with
    | true =>
      obtain ⟨x, hx, hs⟩ := List.any_eq_true.mp q
      obtain ⟨i, hi, hk⟩ := hh x hx
      obtain rfl : m = x := Nat.eq_of_beq_eq_true hs
      exact ⟨i, t, hi, by omega, mk_same (lay3 ha hb i) (lay3 ha hb t) hk hm, mk_same (lay3 ha hb t) (lay3 ha hb i) hm hk⟩
    | false =>
      rw [q, cond_false, frc_eq] at h
      refine repC_iff ha hb f (t + 1) _ _ (by omega) (mk_step (lay3 ha hb t) hm) (fun x hx => ?_) h
      rcases List.mem_cons.mp hx with rfl | hx
      · exact ⟨t, by omega, hm⟩
      · obtain ⟨i, hi, hk⟩ := hh x hx
        exact ⟨i, by omega, hk⟩
end
theorem tabs_3c : (tabs2 3).all repC3 = true := by decide +kernel
theorem tabs_12 : (tabs1 1).all (repB 1) = true ∧ (tabs1 2).all (repB 2) = true := by decide +kernel
theorem eRep_3c {rows : List (List Nat)} {c d : List Nat} (ok : OkM 2 rows) (hn : rows.length = 3) (hc : colsOf 2 rows = [c, d]) (h1 : c.length = 3 ∧ ∀ s ∈ c, s < 3) (h2 : d.length = 3 ∧ ∀ s ∈ d, s < 3) : ERep 2 rows := by
  have hm : [c, d] ∈ tabs2 3 := List.mem_flatMap.mpr ⟨c, allRows_mem h1.1 h1.2, List.mem_map.mpr ⟨d, allRows_mem h2.1 h2.2, rfl⟩⟩
  have hr : repC c d 41 (Nat.shiftLeft 1 21) [] = true := List.all_eq_true.mp tabs_3c _ hm
  obtain ⟨i, j, hij, hj, q1, q2⟩ := repC_iff (eff3_of h1.1 h1.2) (eff3_of h2.1 h2.2) 41 0 _ [] (by omega) mk0 (fun h hh => by cases hh) hr
  rw [← hn, ← hc] at q1 q2
  exact ⟨i, j, hij, hj, effSub_of ok q1, effSub_of ok q2⟩
end K78

/-! text M10 -/
set_option Elab.async false
set_option linter.all false
set_option maxRecDepth 100000
set_option maxHeartbeats 4000000
namespace K78
/-! ### the built machines: finite checks -/
structure Fine (k : Nat) (rows : List (List Nat)) (f l d : Nat) : Prop where
  ok : OkM k rows
  n5 : rows.length ≤ 5
  num : NumW k rows (some (f, l, d))
  rep : ERep k rows
def okB (k : Nat) (rows : List (List Nat)) : Bool := Nat.ble 1 k && Nat.ble k 3 && Nat.ble 1 rows.length && Nat.ble rows.length 5 && rows.all fun r => Nat.beq r.length k && r.all fun s => Nat.blt s rows.length
theorem okB_iff {k : Nat} {rows : List (List Nat)} (h : okB k rows = true) : OkM k rows ∧ rows.length ≤ 5 := by
  unfold okB at h
  simp only [Bool.and_eq_true, List.all_eq_true, Nat.ble_eq, Nat.beq_eq, Nat.blt_eq] at h
  obtain ⟨⟨⟨⟨h1, h2⟩, h3⟩, h4⟩, h5⟩ := h
  exact ⟨⟨h1, by omega, h3, by omega, fun r hr => (h5 r hr).1, fun r hr => (h5 r hr).2⟩, h4⟩
def eqL : List Nat → List Nat → Bool := eqR
def setB (f : Nat → List Nat) (x : Nat) : Bool := (List.range x).all (fun i => !(eqR (f (i + 1)) (f i))) && eqR (f (x + 1)) (f x)
theorem setB_iff {f : Nat → List Nat} {x : Nat} (h : setB f x = true) : Settled f x := by
  unfold setB at h
  simp only [Bool.and_eq_true, List.all_eq_true, List.mem_range, Bool.not_eq_true'] at h
  refine ⟨fun i hi z => ?_, eqR_iff.mp h.2⟩
  have := h.1 i hi
  rw [eqR_iff.mpr z] at this
  cases this
def numB (k : Nat) (rows : List (List Nat)) (x y f l d : Nat) : Bool :=
  setB (behF rows) x && setB (clsF rows) y && Nat.ble 1 d && letsF k rows x d y && (List.range d).all (fun s => Nat.beq s 0 || !(letsF k rows x s y)) &&
  letsF k rows f d y && (List.range f).all (fun j => !(letsF k rows j d y)) && letsF k rows x d l && (List.range l).all (fun j => !(letsF k rows x d j))
theorem numB_iff {k : Nat} {rows : List (List Nat)} {x y f l d : Nat} (ok : OkM k rows) (h : numB k rows x y f l d = true) : NumW k rows (some (f, l, d)) := by
  unfold numB at h
  simp only [Bool.and_eq_true, List.all_eq_true, List.mem_range, Bool.not_eq_true', Bool.or_eq_true, Nat.ble_eq, Nat.beq_eq] at h
  obtain ⟨⟨⟨⟨⟨⟨⟨⟨h1, h2⟩, h3⟩, h4⟩, h5⟩, h6⟩, h7⟩, h8⟩, h9⟩ := h
  have hx := setB_iff h1
  have hy := setB_iff h2
  refine numW_of ok ⟨x, y, hx, hy, h3, ?_, h6, h7, h8, h9⟩
  rcases num_cs ok hx hy with z | ⟨d', hd', q, _⟩
  · rw [z d h3] at h4; cases h4
  · have e : d' ∣ d := (q d h3).mp h4
    have le := Nat.le_of_dvd h3 e
    have t : letsF k rows x d' y = true := (q d' hd').mpr (Nat.dvd_refl _)
    have : d' = d := by
      apply Decidable.byContradiction; intro z
      rcases h5 d' (by omega) with w | w
      · omega
      · rw [t] at w; cases w
    subst this
    exact q
noncomputable def frcL (l : List Nat) : (List Nat → Bool) → Bool := List.rec (motive := fun _ => (List Nat → Bool) → Bool) (fun f => f []) (fun a _ r f => frc a fun a' => r fun l' => f (a' :: l')) l
theorem frcL_eq : ∀ (l : List Nat) (f : List Nat → Bool), frcL l f = f l
  | [], f => rfl
  | a :: l, f => by
    show (frc a fun a' => frcL l fun l' => f (a' :: l')) = _
    rw [frc_eq, frcL_eq l]
noncomputable def frcR (l : List (List Nat)) : (List (List Nat) → Bool) → Bool := List.rec (motive := fun _ => (List (List Nat) → Bool) → Bool) (fun f => f []) (fun a _ r f => frcL a fun a' => r fun l' => f (a' :: l')) l
theorem frcR_eq : ∀ (l : List (List Nat)) (f : List (List Nat) → Bool), frcR l f = f l
  | [], f => rfl
  | a :: l, f => by
    show (frcL a fun a' => frcR l fun l' => f (a' :: l')) = _
    rw [frcL_eq, frcR_eq l]
noncomputable def fineB (k : Nat) (rows : List (List Nat)) (x y f l d : Nat) : Bool := frcR rows fun rows => okB k rows && (repB rows.length (colsOf k rows) && numB k rows x y f l d)
theorem fineB_iff {k : Nat} {rows : List (List Nat)} {x y f l d : Nat} (h : fineB k rows x y f l d = true) : Fine k rows f l d := by
  unfold fineB at h
  rw [frcR_eq, Bool.and_eq_true, Bool.and_eq_true] at h
  obtain ⟨ok, n5⟩ := okB_iff h.1
  exact ⟨ok, n5, numB_iff ok h.2.2, eRep_of ok h.2.1⟩
def bitsL (k : Nat) : List (List Nat) := (allRows 2 k).filter fun bs => bs.contains 0 && bs.contains 1
theorem mem_bitsL {k : Nat} {bs : List Nat} (h : Bits k bs) : bs ∈ bitsL k := by
  refine List.mem_filter.mpr ⟨allRows_mem h.len h.lt, ?_⟩
  simp [h.z, h.o]
noncomputable def one1 (k : Nat) : Bool := (bitsL k).all fun b => fineB k (firstF b 1 0) 1 0 1 0 1 && fineB k (firstF b 2 0) 2 0 2 0 1 && fineB k (firstF b 3 0) 3 0 3 0 1
noncomputable def one2 (k : Nat) : Bool := (bitsL k).all fun b => fineB k (lastF b 1 0) 0 1 0 1 1 && fineB k (lastF b 2 0) 0 2 0 2 1
noncomputable def one3 (k : Nat) : Bool := (bitsL k).all fun b => fineB k (wheelF b 1 2 0) 0 0 0 0 1 && fineB k (wheelF b 1 3 0) 0 0 0 0 1 && fineB k (wheelF b 2 2 0) 0 0 0 0 2
noncomputable def two1 (k : Nat) : Bool := (bitsL k).all fun b => (bitsL k).all fun c => fineB k (firstF b 1 0 ++ lastF c 1 3) 1 1 1 1 1 && fineB k (lastF c 1 0 ++ firstF b 1 2) 1 1 1 1 1
noncomputable def two2 (k : Nat) : Bool := (bitsL k).all fun b => (bitsL k).all fun c => fineB k (firstF b 1 0 ++ wheelF c 1 2 3) 1 0 1 0 1 && fineB k (wheelF c 1 2 0 ++ firstF b 1 2) 1 0 1 0 1
noncomputable def two3 (k : Nat) : Bool := (bitsL k).all fun b => (bitsL k).all fun c => fineB k (lastF b 1 0 ++ wheelF c 1 2 2) 0 1 0 1 1 && fineB k (wheelF c 1 2 0 ++ lastF b 1 2) 0 1 0 1 1
noncomputable def two4 (k : Nat) : Bool := (bitsL k).all fun b => (bitsL k).all fun c => fineB k (lastF b 1 0 ++ wheelF c 1 3 2) 0 1 0 1 1 && fineB k (wheelF c 1 3 0 ++ lastF b 1 3) 0 1 0 1 1
noncomputable def noneB (k : Nat) : Bool := fineB k [List.replicate k 0] 0 0 0 0 1
noncomputable def awB (k n : Nat) : Bool := (allRows k n).all fun cs => fineB k (awaitF k cs.length cs) (n + 1) (n + 1) 0 0 1
theorem one1_ok : one1 2 = true ∧ one1 3 = true := by decide +kernel
theorem one2_ok : one2 2 = true ∧ one2 3 = true := by decide +kernel
theorem one3_ok : one3 2 = true ∧ one3 3 = true := by decide +kernel
theorem two1_ok : two1 2 = true ∧ two1 3 = true := by decide +kernel
theorem two2_ok : two2 2 = true ∧ two2 3 = true := by decide +kernel
theorem two3_ok : two3 2 = true ∧ two3 3 = true := by decide +kernel
theorem two4_ok : two4 2 = true ∧ two4 3 = true := by decide +kernel
theorem none_ok : noneB 2 = true ∧ noneB 3 = true := by decide +kernel
theorem aw_ok : (awB 2 2 = true ∧ awB 2 3 = true) ∧ awB 3 2 = true ∧ awB 3 3 = true := by decide +kernel
end K78

/-! text M11 -/
set_option Elab.async false
set_option linter.all false
set_option maxRecDepth 100000
set_option maxHeartbeats 4000000
namespace K78
/-! ### what is built is one of them -/
section
variable {k : Nat} {b c : List Nat}
theorem two_of {p : Nat → Bool} (hk : k = 2 ∨ k = 3) (h : p 2 = true ∧ p 3 = true) : p k = true := by
  rcases hk with rfl | rfl
  · exact h.1
  · exact h.2
theorem fine_first (hk : k = 2 ∨ k = 3) (hb : Bits k b) {f : Nat} (h1 : 1 ≤ f) (h3 : f ≤ 3) : Fine k (firstF b f 0) f 0 1 := by
  have h := List.all_eq_true.mp (two_of hk one1_ok) b (mem_bitsL hb)
  simp only [Bool.and_eq_true] at h
  have : f = 1 ∨ f = 2 ∨ f = 3 := by omega
  rcases this with rfl | rfl | rfl
  · exact fineB_iff h.1.1
  · exact fineB_iff h.1.2
  · exact fineB_iff h.2
theorem fine_last (hk : k = 2 ∨ k = 3) (hb : Bits k b) {l : Nat} (h1 : 1 ≤ l) (h3 : l ≤ 2) : Fine k (lastF b l 0) 0 l 1 := by
  have h := List.all_eq_true.mp (two_of hk one2_ok) b (mem_bitsL hb)
  simp only [Bool.and_eq_true] at h
  have : l = 1 ∨ l = 2 := by omega
  rcases this with rfl | rfl
  · exact fineB_iff h.1
  · exact fineB_iff h.2
theorem fine_wheel (hk : k = 2 ∨ k = 3) (hb : Bits k b) {s m : Nat} (h : (s = 1 ∧ m = 2) ∨ (s = 1 ∧ m = 3) ∨ (s = 2 ∧ m = 2)) : Fine k (wheelF b s m 0) 0 0 s := by
  have q := List.all_eq_true.mp (two_of hk one3_ok) b (mem_bitsL hb)
  simp only [Bool.and_eq_true] at q
  rcases h with ⟨rfl, rfl⟩ | ⟨rfl, rfl⟩ | ⟨rfl, rfl⟩
  · exact fineB_iff q.1.1
  · exact fineB_iff q.1.2
  · exact fineB_iff q.2
theorem fine_fl (hk : k = 2 ∨ k = 3) (hb : Bits k b) (hc : Bits k c) : Fine k (firstF b 1 0 ++ lastF c 1 3) 1 1 1 ∧ Fine k (lastF c 1 0 ++ firstF b 1 2) 1 1 1 := by
  have q := List.all_eq_true.mp (List.all_eq_true.mp (two_of (p := two1) hk two1_ok) b (mem_bitsL hb)) c (mem_bitsL hc)
  rw [Bool.and_eq_true] at q
  exact ⟨fineB_iff q.1, fineB_iff q.2⟩
theorem fine_fw (hk : k = 2 ∨ k = 3) (hb : Bits k b) (hc : Bits k c) : Fine k (firstF b 1 0 ++ wheelF c 1 2 3) 1 0 1 ∧ Fine k (wheelF c 1 2 0 ++ firstF b 1 2) 1 0 1 := by
  have q := List.all_eq_true.mp (List.all_eq_true.mp (two_of (p := two2) hk two2_ok) b (mem_bitsL hb)) c (mem_bitsL hc)
  rw [Bool.and_eq_true] at q
  exact ⟨fineB_iff q.1, fineB_iff q.2⟩
theorem fine_lw (hk : k = 2 ∨ k = 3) (hb : Bits k b) (hc : Bits k c) {m : Nat} (hm : m = 2 ∨ m = 3) : Fine k (lastF b 1 0 ++ wheelF c 1 m 2) 0 1 1 ∧ Fine k (wheelF c 1 m 0 ++ lastF b 1 m) 0 1 1 := by
  rcases hm with rfl | rfl
  · have q := List.all_eq_true.mp (List.all_eq_true.mp (two_of (p := two3) hk two3_ok) b (mem_bitsL hb)) c (mem_bitsL hc)
    rw [Bool.and_eq_true] at q
    exact ⟨fineB_iff q.1, fineB_iff q.2⟩
  · have q := List.all_eq_true.mp (List.all_eq_true.mp (two_of (p := two4) hk two4_ok) b (mem_bitsL hb)) c (mem_bitsL hc)
    rw [Bool.and_eq_true] at q
    exact ⟨fineB_iff q.1, fineB_iff q.2⟩
theorem fine_none (hk : k = 2 ∨ k = 3) : Fine k [List.replicate k 0] 0 0 1 := fineB_iff (two_of (p := noneB) hk none_ok)
theorem fine_await (hk : k = 2 ∨ k = 3) {cs : List Nat} (hl : cs.length = 2 ∨ cs.length = 3) (hc : ∀ c ∈ cs, c < k) : Fine k (awaitF k cs.length cs) 0 0 1 := by
  have hm := allRows_mem (n := k) rfl hc
  obtain ⟨⟨q1, q2⟩, q3, q4⟩ := aw_ok
  rcases hk with rfl | rfl <;> rcases hl with h | h <;> rw [h] at hm
  · exact fineB_iff (List.all_eq_true.mp q1 cs hm)
  · exact fineB_iff (List.all_eq_true.mp q2 cs hm)
  · exact fineB_iff (List.all_eq_true.mp q3 cs hm)
  · exact fineB_iff (List.all_eq_true.mp q4 cs hm)
end
/-! ### part by part -/
def Ends (m : Nat) (o : List (Nat × List Nat)) (x : BSt) (G : BSt → Prop) : Prop := G (o.foldl (bPart m) x)
section
variable {k m f l s n : Nat} {r : List (List Nat)} {bs : List Nat} {o : List (Nat × List Nat)} {G : BSt → Prop}
def EndsL (m : Nat) (o : List (Nat × List Nat)) (r : List (List Nat)) (f l s n : Nat) (G : BSt → Prop) : Prop := r.length = n → l ≤ 2 → Ends m o (r, f, l, s) G
theorem enil (h : G (r, f, l, s)) : EndsL m [] r f l s n G := fun _ _ => h
theorem e0 (A : 0 < f → n + f + 2 ≤ 5 → EndsL m o (r ++ firstF bs f n) f l s (n + f + 2) G) (B : EndsL m o r 0 l s n G) : EndsL m ((0, bs) :: o) r f l s n G := by
  intro hn hl
  show Ends m o (bPart m (r, f, l, s) (0, bs)) G
  unfold bPart
  subst hn
  by_cases h : 0 < f ∧ r.length + f + 2 ≤ 5
  · rw [if_pos rfl, if_pos h]
    exact A h.1 h.2 (by rw [List.length_append, firstF_len _ _ h.1]; omega) hl
  · rw [if_pos rfl, if_neg h]
    exact B rfl hl
theorem two_l (hl : l ≤ 2) (h : 0 < l) : 2 ^ l = 2 * l := by
  have : l = 1 ∨ l = 2 := by omega
  rcases this with rfl | rfl <;> rfl
theorem e1 (A : 0 < l → n + 2 * l ≤ 5 → EndsL m o (r ++ lastF bs l n) f l s (n + 2 * l) G) (B : EndsL m o r f 0 s n G) : EndsL m ((1, bs) :: o) r f l s n G := by
  intro hn hl
  show Ends m o (bPart m (r, f, l, s) (1, bs)) G
  unfold bPart
  subst hn
  by_cases h : 0 < l ∧ r.length + 2 * l ≤ 5
  · rw [if_neg (show ¬ (1 : Nat) = 0 by decide), if_pos rfl, if_pos h]
    exact A h.1 h.2 (by rw [List.length_append, lastF_len, two_l hl h.1]) hl
  · rw [if_neg (show ¬ (1 : Nat) = 0 by decide), if_pos rfl, if_neg h]
    exact B rfl (Nat.zero_le _)
theorem e2 (A : n + s * m ≤ 5 → EndsL m o (r ++ wheelF bs s m n) f l s (n + s * m) G) (B : EndsL m o r f l 1 n G) : EndsL m ((2, bs) :: o) r f l s n G := by
  intro hn hl
  show Ends m o (bPart m (r, f, l, s) (2, bs)) G
  unfold bPart
  subst hn
  by_cases h : r.length + s * m ≤ 5
  · rw [if_neg (show ¬ (2 : Nat) = 0 by decide), if_neg (show ¬ (2 : Nat) = 1 by decide), if_pos h]
    exact A h (by rw [List.length_append, wheelF_len]) hl
  · rw [if_neg (show ¬ (2 : Nat) = 0 by decide), if_neg (show ¬ (2 : Nat) = 1 by decide), if_neg h]
    exact B rfl hl
theorem fine_if (h : Fine k r f l s) : Fine k (if r = [] then [List.replicate k 0] else r) f l s := by
  rw [if_neg (fun z => by have := h.ok.n1; rw [z] at this; cases this)]
  exact h
end
def FineB (k : Nat) (y : BSt) : Prop := Fine k (if y.1 = [] then [List.replicate k 0] else y.1) y.2.1 y.2.2.1 y.2.2.2
section
variable {k m f0 l0 s0 : Nat} {b0 b1 b2 : List Nat}
theorem sm (hs : s0 ∈ [1, 1, 2, 2, 3, 4]) (hm : m ∈ (if s0 < 3 then [2, 2, 3] else [2])) : 2 ≤ s0 * m ∧ (s0 * m ≤ 5 → (s0 = 1 ∧ m = 2) ∨ (s0 = 1 ∧ m = 3) ∨ (s0 = 2 ∧ m = 2)) := by
  simp only [List.mem_cons, List.not_mem_nil, or_false] at hs
  have hm2 : m = 2 ∨ m = 3 := by
    split at hm <;> simp only [List.mem_cons, List.not_mem_nil, or_false] at hm <;> omega
  have : s0 = 1 ∨ s0 = 2 ∨ s0 = 3 ∨ s0 = 4 := by omega
  clear hm
  rcases this with rfl | rfl | rfl | rfl <;> rcases hm2 with rfl | rfl <;> decide
theorem fb_none (hk : k = 2 ∨ k = 3) : FineB k ([], 0, 0, 1) := fine_none hk
theorem fb_first (hk : k = 2 ∨ k = 3) {b : List Nat} (hb : Bits k b) {f : Nat} (h1 : 0 < f) (h3 : f ≤ 3) : FineB k ([] ++ firstF b f 0, f, 0, 1) := fine_if (fine_first hk hb h1 h3)
theorem fb_last (hk : k = 2 ∨ k = 3) {b : List Nat} (hb : Bits k b) {l : Nat} (h1 : 0 < l) (h3 : l ≤ 2) : FineB k ([] ++ lastF b l 0, 0, l, 1) := fine_if (fine_last hk hb h1 h3)
theorem fb_wheel (hk : k = 2 ∨ k = 3) {b : List Nat} (hb : Bits k b) (h5 : s0 * m ≤ 5 → (s0 = 1 ∧ m = 2) ∨ (s0 = 1 ∧ m = 3) ∨ (s0 = 2 ∧ m = 2)) (h : 0 + s0 * m ≤ 5) : FineB k ([] ++ wheelF b s0 m 0, 0, 0, s0) := fine_if (fine_wheel hk hb (h5 (by omega)))
theorem fb_fl (hk : k = 2 ∨ k = 3) {b c : List Nat} (hb : Bits k b) (hc : Bits k c) (hf : 0 < f0) (hl : 0 < l0) {n : Nat} (hn : n = 0 + f0 + 2) (h : n + 2 * l0 ≤ 5) : FineB k ([] ++ firstF b f0 0 ++ lastF c l0 n, f0, l0, 1) := by
  obtain rfl : f0 = 1 := by omega
  obtain rfl : l0 = 1 := by omega
  obtain rfl : n = 3 := by omega
  exact fine_if (fine_fl hk hb hc).1
theorem fb_lf (hk : k = 2 ∨ k = 3) {b c : List Nat} (hb : Bits k b) (hc : Bits k c) (hf : 0 < f0) (hl : 0 < l0) {n : Nat} (hn : n = 0 + 2 * l0) (h : n + f0 + 2 ≤ 5) : FineB k ([] ++ lastF c l0 0 ++ firstF b f0 n, f0, l0, 1) := by
  obtain rfl : f0 = 1 := by omega
  obtain rfl : l0 = 1 := by omega
  obtain rfl : n = 2 := by omega
  exact fine_if (fine_fl hk hb hc).2
theorem fb_fw (hk : k = 2 ∨ k = 3) {b c : List Nat} (hb : Bits k b) (hc : Bits k c) (hf : 0 < f0) (h5 : s0 * m ≤ 5 → (s0 = 1 ∧ m = 2) ∨ (s0 = 1 ∧ m = 3) ∨ (s0 = 2 ∧ m = 2)) {n : Nat} (hn : n = 0 + f0 + 2) (h : n + s0 * m ≤ 5) : FineB k ([] ++ firstF b f0 0 ++ wheelF c s0 m n, f0, 0, s0) := by
  have h6 := h5 (by clear h5 hk; omega)
  clear h5
  rcases h6 with ⟨rfl, rfl⟩ | ⟨rfl, rfl⟩ | ⟨rfl, rfl⟩
  · obtain rfl : f0 = 1 := by omega
    obtain rfl : n = 3 := by omega
    exact fine_if (fine_fw hk hb hc).1
  · omega
  · omega
theorem fb_wf (hk : k = 2 ∨ k = 3) {b c : List Nat} (hb : Bits k b) (hc : Bits k c) (hf : 0 < f0) (h5 : s0 * m ≤ 5 → (s0 = 1 ∧ m = 2) ∨ (s0 = 1 ∧ m = 3) ∨ (s0 = 2 ∧ m = 2)) {n : Nat} (hn : n = 0 + s0 * m) (h : n + f0 + 2 ≤ 5) : FineB k ([] ++ wheelF c s0 m 0 ++ firstF b f0 n, f0, 0, s0) := by
  have h6 := h5 (by clear h5 hk; omega)
  clear h5
  rcases h6 with ⟨rfl, rfl⟩ | ⟨rfl, rfl⟩ | ⟨rfl, rfl⟩
  · obtain rfl : f0 = 1 := by omega
    obtain rfl : n = 2 := by omega
    exact fine_if (fine_fw hk hb hc).2
  · omega
  · omega
theorem fb_lw (hk : k = 2 ∨ k = 3) {b c : List Nat} (hb : Bits k b) (hc : Bits k c) (hl : 0 < l0) (h5 : s0 * m ≤ 5 → (s0 = 1 ∧ m = 2) ∨ (s0 = 1 ∧ m = 3) ∨ (s0 = 2 ∧ m = 2)) {n : Nat} (hn : n = 0 + 2 * l0) (h : n + s0 * m ≤ 5) : FineB k ([] ++ lastF b l0 0 ++ wheelF c s0 m n, 0, l0, s0) := by
  have h6 := h5 (by clear h5 hk; omega)
  clear h5
  rcases h6 with ⟨rfl, rfl⟩ | ⟨rfl, rfl⟩ | ⟨rfl, rfl⟩
  · obtain rfl : l0 = 1 := by omega
    obtain rfl : n = 2 := by omega
    exact fine_if (fine_lw hk hb hc (.inl rfl)).1
  · obtain rfl : l0 = 1 := by omega
    obtain rfl : n = 2 := by omega
    exact fine_if (fine_lw hk hb hc (.inr rfl)).1
  · omega
theorem fb_wl (hk : k = 2 ∨ k = 3) {b c : List Nat} (hb : Bits k b) (hc : Bits k c) (hl : 0 < l0) (h5 : s0 * m ≤ 5 → (s0 = 1 ∧ m = 2) ∨ (s0 = 1 ∧ m = 3) ∨ (s0 = 2 ∧ m = 2)) {n : Nat} (hn : n = 0 + s0 * m) (h : n + 2 * l0 ≤ 5) : FineB k ([] ++ wheelF c s0 m 0 ++ lastF b l0 n, 0, l0, s0) := by
  have h6 := h5 (by clear h5 hk; omega)
  clear h5
  rcases h6 with ⟨rfl, rfl⟩ | ⟨rfl, rfl⟩ | ⟨rfl, rfl⟩
  · obtain rfl : l0 = 1 := by omega
    obtain rfl : n = 2 := by omega
    exact fine_if (fine_lw hk hb hc (.inl rfl)).2
  · obtain rfl : l0 = 1 := by omega
    obtain rfl : n = 3 := by omega
    exact fine_if (fine_lw hk hb hc (.inr rfl)).2
  · omega
section
variable (hk : k = 2 ∨ k = 3) (hf : f0 ≤ 3) (hl : l0 ≤ 2) (h2 : 2 ≤ s0 * m) (h5 : s0 * m ≤ 5 → (s0 = 1 ∧ m = 2) ∨ (s0 = 1 ∧ m = 3) ∨ (s0 = 2 ∧ m = 2)) (k0 : Bits k b0) (k1 : Bits k b1) (k2 : Bits k b2)
include hk hf hl h2 h5 k0 k1 k2
theorem b012 : EndsL m [(0, b0), (1, b1), (2, b2)] [] f0 l0 s0 0 (FineB k) :=
  e0 (fun pF qF => e1 (fun pL qL => e2 (fun qW => (show False by clear h5 hk; omega).elim) (enil (fb_fl hk k0 k1 pF pL rfl qL))) (e2 (fun qW => enil (fb_fw hk k0 k2 pF h5 rfl qW)) (enil (fb_first hk k0 pF hf)))) (e1 (fun pL qL => e2 (fun qW => enil (fb_lw hk k1 k2 pL h5 rfl qW)) (enil (fb_last hk k1 pL hl))) (e2 (fun qW => enil (fb_wheel hk k2 h5 qW)) (enil (fb_none hk))))
theorem b021 : EndsL m [(0, b0), (2, b1), (1, b2)] [] f0 l0 s0 0 (FineB k) :=
  e0 (fun pF qF => e2 (fun qW => e1 (fun pL qL => (show False by clear h5 hk; omega).elim) (enil (fb_fw hk k0 k1 pF h5 rfl qW))) (e1 (fun pL qL => enil (fb_fl hk k0 k2 pF pL rfl qL)) (enil (fb_first hk k0 pF hf)))) (e2 (fun qW => e1 (fun pL qL => enil (fb_wl hk k2 k1 pL h5 rfl qL)) (enil (fb_wheel hk k1 h5 qW))) (e1 (fun pL qL => enil (fb_last hk k2 pL hl)) (enil (fb_none hk))))
theorem b102 : EndsL m [(1, b0), (0, b1), (2, b2)] [] f0 l0 s0 0 (FineB k) :=
  e1 (fun pL qL => e0 (fun pF qF => e2 (fun qW => (show False by clear h5 hk; omega).elim) (enil (fb_lf hk k1 k0 pF pL rfl qF))) (e2 (fun qW => enil (fb_lw hk k0 k2 pL h5 rfl qW)) (enil (fb_last hk k0 pL hl)))) (e0 (fun pF qF => e2 (fun qW => enil (fb_fw hk k1 k2 pF h5 rfl qW)) (enil (fb_first hk k1 pF hf))) (e2 (fun qW => enil (fb_wheel hk k2 h5 qW)) (enil (fb_none hk))))
theorem b120 : EndsL m [(1, b0), (2, b1), (0, b2)] [] f0 l0 s0 0 (FineB k) :=
  e1 (fun pL qL => e2 (fun qW => e0 (fun pF qF => (show False by clear h5 hk; omega).elim) (enil (fb_lw hk k0 k1 pL h5 rfl qW))) (e0 (fun pF qF => enil (fb_lf hk k2 k0 pF pL rfl qF)) (enil (fb_last hk k0 pL hl)))) (e2 (fun qW => e0 (fun pF qF => enil (fb_wf hk k2 k1 pF h5 rfl qF)) (enil (fb_wheel hk k1 h5 qW))) (e0 (fun pF qF => enil (fb_first hk k2 pF hf)) (enil (fb_none hk))))
theorem b201 : EndsL m [(2, b0), (0, b1), (1, b2)] [] f0 l0 s0 0 (FineB k) :=
  e2 (fun qW => e0 (fun pF qF => e1 (fun pL qL => (show False by clear h5 hk; omega).elim) (enil (fb_wf hk k1 k0 pF h5 rfl qF))) (e1 (fun pL qL => enil (fb_wl hk k2 k0 pL h5 rfl qL)) (enil (fb_wheel hk k0 h5 qW)))) (e0 (fun pF qF => e1 (fun pL qL => enil (fb_fl hk k1 k2 pF pL rfl qL)) (enil (fb_first hk k1 pF hf))) (e1 (fun pL qL => enil (fb_last hk k2 pL hl)) (enil (fb_none hk))))
theorem b210 : EndsL m [(2, b0), (1, b1), (0, b2)] [] f0 l0 s0 0 (FineB k) :=
  e2 (fun qW => e1 (fun pL qL => e0 (fun pF qF => (show False by clear h5 hk; omega).elim) (enil (fb_wl hk k1 k0 pL h5 rfl qL))) (e0 (fun pF qF => enil (fb_wf hk k2 k0 pF h5 rfl qF)) (enil (fb_wheel hk k0 h5 qW)))) (e1 (fun pL qL => e0 (fun pF qF => enil (fb_lf hk k2 k1 pF pL rfl qF)) (enil (fb_last hk k1 pL hl))) (e0 (fun pF qF => enil (fb_first hk k2 pF hf)) (enil (fb_none hk))))
end
section
variable {r0 : List (List Nat)} {n : Nat} (h4 : 4 ≤ n) (h2 : 2 ≤ s0 * m) (hq : FineB k (r0, 0, 0, 1))
include h4 h2 hq
theorem a012 : EndsL m [(0, b0), (1, b1), (2, b2)] r0 f0 l0 s0 n (FineB k) :=
  e0 (fun pF qF => (show False by omega).elim) (e1 (fun pL qL => (show False by omega).elim) (e2 (fun qW => (show False by omega).elim) (enil hq)))
theorem a021 : EndsL m [(0, b0), (2, b1), (1, b2)] r0 f0 l0 s0 n (FineB k) :=
  e0 (fun pF qF => (show False by omega).elim) (e2 (fun qW => (show False by omega).elim) (e1 (fun pL qL => (show False by omega).elim) (enil hq)))
theorem a102 : EndsL m [(1, b0), (0, b1), (2, b2)] r0 f0 l0 s0 n (FineB k) :=
  e1 (fun pL qL => (show False by omega).elim) (e0 (fun pF qF => (show False by omega).elim) (e2 (fun qW => (show False by omega).elim) (enil hq)))
theorem a120 : EndsL m [(1, b0), (2, b1), (0, b2)] r0 f0 l0 s0 n (FineB k) :=
  e1 (fun pL qL => (show False by omega).elim) (e2 (fun qW => (show False by omega).elim) (e0 (fun pF qF => (show False by omega).elim) (enil hq)))
theorem a201 : EndsL m [(2, b0), (0, b1), (1, b2)] r0 f0 l0 s0 n (FineB k) :=
  e2 (fun qW => (show False by omega).elim) (e0 (fun pF qF => (show False by omega).elim) (e1 (fun pL qL => (show False by omega).elim) (enil hq)))
theorem a210 : EndsL m [(2, b0), (1, b1), (0, b2)] r0 f0 l0 s0 n (FineB k) :=
  e2 (fun qW => (show False by omega).elim) (e1 (fun pL qL => (show False by omega).elim) (e0 (fun pF qF => (show False by omega).elim) (enil hq)))
end
end
theorem perm3 {i j n : Nat} (h : [i, j, n].Perm [0, 1, 2]) : (i = 0 ∧ j = 1 ∧ n = 2) ∨ (i = 0 ∧ j = 2 ∧ n = 1) ∨ (i = 1 ∧ j = 0 ∧ n = 2) ∨ (i = 1 ∧ j = 2 ∧ n = 0) ∨ (i = 2 ∧ j = 0 ∧ n = 1) ∨ (i = 2 ∧ j = 1 ∧ n = 0) := by
  have nd : [i, j, n].Nodup := h.nodup_iff.mpr (by decide)
  have h1 : i ∈ [0, 1, 2] := h.mem_iff.mp (by simp)
  have h2 : j ∈ [0, 1, 2] := h.mem_iff.mp (by simp)
  have h3 : n ∈ [0, 1, 2] := h.mem_iff.mp (by simp)
  simp only [List.mem_cons, List.not_mem_nil, or_false] at h1 h2 h3
  clear h
  rcases h1 with rfl | rfl | rfl <;> rcases h2 with rfl | rfl | rfl <;> rcases h3 with rfl | rfl | rfl <;> revert nd <;> decide
theorem fine_built {k : Nat} {rows : List (List Nat)} {f l st : Nat} (h : BuiltP k rows f l st) : Fine k rows f l st ∧ (k = 2 ∨ k = 3) := by
  obtain ⟨r0, f0, l0, s0, m, o, r1, hk, hr0, hf, hl, hs, hm, hp, hb, hfold, rfl⟩ := h
  refine ⟨?_, hk⟩
  obtain ⟨h2, h5⟩ := sm hs hm
  have main : Ends m o (r0, f0, l0, s0) (FineB k) := by
    have ol : o.length = 3 := by have := hp.length_eq; simpa using this
    match o, ol with
    | [(i, b0), (j, b1), (n, b2)], _ =>
      have hp : [i, j, n].Perm [0, 1, 2] := hp
      have k0 : Bits k b0 := hb (i, b0) (by simp)
      have k1 : Bits k b1 := hb (j, b1) (by simp)
      have k2 : Bits k b2 := hb (n, b2) (by simp)
      rcases hr0 with rfl | ⟨cs, hcs, hc, e⟩
      · rcases perm3 hp with ⟨rfl, rfl, rfl⟩ | ⟨rfl, rfl, rfl⟩ | ⟨rfl, rfl, rfl⟩ | ⟨rfl, rfl, rfl⟩ | ⟨rfl, rfl, rfl⟩ | ⟨rfl, rfl, rfl⟩
        · exact b012 hk hf hl h2 h5 k0 k1 k2 rfl hl
        · exact b021 hk hf hl h2 h5 k0 k1 k2 rfl hl
        · exact b102 hk hf hl h2 h5 k0 k1 k2 rfl hl
        · exact b120 hk hf hl h2 h5 k0 k1 k2 rfl hl
        · exact b201 hk hf hl h2 h5 k0 k1 k2 rfl hl
        · exact b210 hk hf hl h2 h5 k0 k1 k2 rfl hl
      · have hlen : r0.length = cs.length + 2 := by rw [e]; simp [awaitF, aRows_len]
        have h4 : 4 ≤ cs.length + 2 := by omega
        have hq : FineB k (r0, 0, 0, 1) := by
          have := fine_await hk hcs hc
          rw [← e] at this
          exact fine_if this
        rcases perm3 hp with ⟨rfl, rfl, rfl⟩ | ⟨rfl, rfl, rfl⟩ | ⟨rfl, rfl, rfl⟩ | ⟨rfl, rfl, rfl⟩ | ⟨rfl, rfl, rfl⟩ | ⟨rfl, rfl, rfl⟩
        · exact a012 h4 h2 hq hlen hl
        · exact a021 h4 h2 hq hlen hl
        · exact a102 h4 h2 hq hlen hl
        · exact a120 h4 h2 hq hlen hl
        · exact a201 h4 h2 hq hlen hl
        · exact a210 h4 h2 hq hlen hl
  unfold Ends at main
  rw [hfold] at main
  exact main
end K78

/-! text M12 -/
set_option Elab.async false
set_option linter.all false
set_option maxRecDepth 100000
set_option maxHeartbeats 4000000
namespace K78
/-! ### every machine that is given -/
theorem col_get {n : Nat} {a : List Nat} (h : a.length = n) : ((List.range n).map fun s => a.getD s 0) = a := by
  subst h
  refine List.ext_getElem (by simp) fun i h1 h2 => ?_
  simp [h2]
theorem colsOf1 {n : Nat} {a : List Nat} (h : a.length = n) : colsOf 1 (colF n [a]) = [a] := by
  show [(colF n [a]).map fun r => getN r 0] = [a]
  unfold colF
  rw [List.map_map]
  show [(List.range n).map fun s => a.getD s 0] = [a]
  rw [col_get h]
theorem colsOf2 {n : Nat} {a b : List Nat} (h : a.length = n) (h' : b.length = n) : colsOf 2 (colF n [a, b]) = [a, b] := by
  show [(colF n [a, b]).map fun r => getN r 0, (colF n [a, b]).map fun r => getN r 1] = [a, b]
  unfold colF
  rw [List.map_map, List.map_map]
  show [(List.range n).map fun s => a.getD s 0, (List.range n).map fun s => b.getD s 0] = [a, b]
  rw [col_get h, col_get h']
theorem colF_len (n : Nat) (cols : List (List Nat)) : (colF n cols).length = n := by simp [colF]
theorem colF_ok {k n : Nat} {cols : List (List Nat)} (hk1 : 1 ≤ k) (hk2 : k ≤ 2) (hn1 : 1 ≤ n) (hn3 : n ≤ 3) (hl : cols.length = k) (hc : ∀ c ∈ cols, ColOk n c) : OkM k (colF n cols) := by
  have row : ∀ r ∈ colF n cols, ∃ s < n, r = cols.map fun c => c.getD s 0 := by
    intro r hr
    obtain ⟨s, hs, rfl⟩ := List.mem_map.mp hr
    exact ⟨s, List.mem_range.mp hs, rfl⟩
  refine ⟨hk1, by omega, by rw [colF_len]; exact hn1, by rw [colF_len]; omega, fun r hr => ?_, fun r hr t ht => ?_⟩
  · obtain ⟨s, _, rfl⟩ := row r hr
    rw [List.length_map, hl]
  · obtain ⟨s, hs, rfl⟩ := row r hr
    obtain ⟨c, hcc, rfl⟩ := List.mem_map.mp ht
    obtain ⟨h1, h2⟩ := hc c hcc
    rw [colF_len, getD_get (by omega)]
    exact h2 _ (List.getElem_mem _)
theorem tab_eRep {k n : Nat} {cols : List (List Nat)} (hk1 : 1 ≤ k) (hk2 : k ≤ 2) (hn1 : 1 ≤ n) (hn3 : n ≤ 3) (hl : cols.length = k) (hc : ∀ c ∈ cols, ColOk n c) : ERep k (colF n cols) := by
  have ok := colF_ok hk1 hk2 hn1 hn3 hl hc
  have cl := colF_len n cols
  have : k = 1 ∨ k = 2 := by omega
  rcases this with rfl | rfl
  · match cols, hl with
    | [a], _ =>
      obtain ⟨a1, a2⟩ := hc a (by simp)
      have hm : [a] ∈ tabs1 n := List.mem_map.mpr ⟨a, allRows_mem a1 a2, rfl⟩
      refine eRep_of ok ?_
      rw [cl, colsOf1 a1]
      have : n = 1 ∨ n = 2 ∨ n = 3 := by omega
      rcases this with rfl | rfl | rfl
      · exact List.all_eq_true.mp tabs_12.1 _ hm
      · exact List.all_eq_true.mp tabs_12.2 _ hm
      · exact List.all_eq_true.mp tabs_3a _ hm
  · match cols, hl with
    | [a, b], _ =>
      obtain ⟨a1, a2⟩ := hc a (by simp)
      obtain ⟨b1, b2⟩ := hc b (by simp)
      have : n = 1 ∨ n = 2 ∨ n = 3 := by omega
      rcases this with rfl | rfl | rfl
      · refine eRep_of ok ?_
        rw [cl, colsOf2 a1 b1]
        exact List.all_eq_true.mp tabs_1 _ (List.mem_flatMap.mpr ⟨a, allRows_mem a1 a2, List.mem_map.mpr ⟨b, allRows_mem b1 b2, rfl⟩⟩)
      · refine eRep_of ok ?_
        rw [cl, colsOf2 a1 b1]
        exact List.all_eq_true.mp tabs_2 _ (List.mem_flatMap.mpr ⟨a, allRows_mem a1 a2, List.mem_map.mpr ⟨b, allRows_mem b1 b2, rfl⟩⟩)
      · exact eRep_3c ok cl (colsOf2 a1 b1) ⟨a1, a2⟩ ⟨b1, b2⟩
theorem law_ok : ∀ rows tr, Given rows tr → ∃ k, LawOk k rows tr := by
  rintro rows tr (⟨k, f, l, st, rows0, mm, hb, hm, rfl, rfl⟩ | ⟨k, n, cols, hk1, hk2, hn1, hn3, hl, hc, rfl, rfl⟩)
  · obtain ⟨h, hk⟩ := fine_built hb
    have R := ren_of hm
    exact ⟨k, lawOk_of (ren_ok h.ok R) (by rw [ren_len]; exact h.n5) (by omega) (ren_eRep h.ok R h.rep) fun t e => by cases e; exact ren_numW h.ok R h.num⟩
  · exact ⟨k, lawOk_of (colF_ok hk1 hk2 hn1 hn3 hl hc) (by rw [colF_len]; omega) (by omega) (tab_eRep hk1 hk2 hn1 hn3 hl hc) fun t e => by cases e⟩
end K78

/-! text E1 -/
set_option Elab.async false
set_option linter.all false
set_option maxRecDepth 100000
set_option maxHeartbeats 4000000
namespace K78
open PySem PySem.Spec PyProof.Rows L2
/-! ### a def of the text run at one entry, where it is known that no guard stands -/
section
variable {P : Program} {w : World} {K : PySem.W.Frag} {mg mb : Str → Option Value} {base : Heap}
theorem run_here {k : Nat} {x : Str} {params : Arguments} {body : List Stmt} {scope : Scope} {f : Addr} {fd : FuncData} {N ps : List Str} {A : Around} {outer : List Env} {s : Shared} {H : Hp} {args : Args} {us : List Value} {vs : List V} {Q : VK} {E : XK}
    (F : FunD K x x params body scope [] [] f fd) (S : FnScope N ps scope) (hr : Room (k + 1) A) (env0 : Env0 P w K mg base A outer s H) (hb : BindsTo s fd args (ps.zip us)) (r : Vals vs us) (hl : vs.length = ps.length)
    (b : ∀ cdv : Value, Room k (A.deeper (envOfC x scope s.heap.objs.size f cdv)) → ∃ t, PSs (cxOf CX0 P w K mg base N x scope f cdv A outer s H E).nox body t ∧ t { nx := fun _ H' => Q .non H', rt := Q } (start N vs) H) :
    codeAny (model P w) A (.call (.ref f) args) (CR CX0 outer P w H s Q E) s := by
  obtain ⟨oc, od, dV, kV, doc, pm, an, cdv, ct, osl, rfl, here, hcd, _, _⟩ := F.ex
  obtain ⟨t, walked, ends⟩ := b cdv (hr.deeper _)
  have up : ∀ c o, base.get? c = some o → s.heap.get? c = some o := fun c o z => (env0.bs c o z).1
  have kin := env0.mod.kin.keeps up
  have nolim := env0.mod.nolimit.keeps up
  refine codeAny_call_function hr.depth (kin _ _ here) rfl S.co S.gen rfl (PySem.W.codeRec_of kin hcd) (hb _ _ _ _ (wpAny_newFunctionEnv_cells S.kind ?_ ?_))
  · rintro ⟨n, v⟩ hn
    exact (S.par n (List.of_mem_zip hn).1).imp id fun z => ⟨z, PySem.W.cellsFrom_some _ _ _ (.inl z)⟩
  · rintro env rfl s1 started
    refine ⟨nolim.keeps started.toInCall.keep, codeAny_func (wpAny_mono (walked.nox.run [] s1 (start N vs) H _ (inv_start S hr.hd env0 hl r started) ends) ?_ fun e s' z => z)⟩
    intro fl s' z
    have done : ∀ {σ' : L2.St} {H' : Hp} {v : V} {u : Value}, Inv (cxOf CX0 P w K mg base N x scope f cdv A outer s H E) [] σ' H' s' → RelV v u → Q v H' → CE outer P w H s Q u s' :=
      fun J rv q => ⟨_, _, J.os, J.bare, J.base, J.hok, rv, q⟩
    match fl, z with
    | .ret u, ⟨v, σ', H', J, rv, q⟩ => exact done J rv q
    | .next, ⟨σ', H', J, q⟩ => exact done (v := .non) (u := .none) J rfl q
    | .brk, ⟨_, _, _, q⟩ => exact False.elim q
    | .cont, ⟨_, _, _, q⟩ => exact False.elim q
/-- the script's own abstract heap: the list is tracked as it stands, unless it is an object of the module -/
def scriptH (K : PySem.W.Frag) (a : Addr) (o : Obj) (xs : List V) : Hp := fun b => if b = a ∧ (K.lookup a).isNone = true then some (.frz o (.lst xs)) else none
theorem scriptH_some {a b : Addr} {o : Obj} {xs : List V} {u : HO} (h : scriptH K a o xs b = some u) : b = a ∧ K.lookup a = none ∧ u = .frz o (.lst xs) := by
  unfold scriptH at h
  split at h
  · rename_i z
    exact ⟨z.1, Option.isNone_iff_eq_none.mp z.2, (Option.some.inj h).symm⟩
  · cases h
/-- the law's call by the script alone -/
theorem call_here {fa a : Addr} {s : Shared} {vs : List Value} {ns : List Int} (kin : K.In s.heap) (gl : s.heap.Ns mainGlobals mg) (bl : s.heap.Ns builtinsNs mb) (blt : ∀ x : Str, x ≠ "__name__" → mb x = bootBuiltins x) (lim : s.heap.NoLimit) (gens : s.gens = #[])
    (obj : s.heap.get? a = some { cls := .type "list", data := .seq vs.toArray }) (hin : IntsAre vs ns) (few : ns.length ≤ sizeLine)
    (runs : ∀ (base : Heap) (H : Hp), K.In base → base.Ns mainGlobals mg → SqL K H a (ns.map V.int) → Env0 P w K mg base callerA [] s H → codeAny (model P w) callerA (.call (.ref fa) ⟨[.ref a], []⟩) (CR CX0 [] P w H s (fun v _ => v = .bl true) E0) s) :
    codeAny (model P w) callerA (.call (.ref fa) ⟨[.ref a], []⟩) (fun r s' => r = .ok (.ret (.bool true)) ∧ OldK s.heap s'.heap ∧ s'.os = s.os ∧ AllBare s'.gens) s := by
  obtain ⟨H, hH⟩ : ∃ H, H = scriptH K a { cls := .type "list", data := .seq vs.toArray } (ns.map V.int) := ⟨_, rfl⟩
  have hS : ∀ {b : Addr} {u : HO}, H b = some u → b = a ∧ K.lookup a = none ∧ u = .frz { cls := .type "list", data := .seq vs.toArray } (.lst (ns.map V.int)) := fun z => scriptH_some (hH ▸ z)
  have isL : ∀ {b : Addr} {o : Obj}, s.heap.get? b = some o → o.data ≠ .seq vs.toArray → H b = none := fun {b o} z ne => by
    match q : H b with
    | none => rfl
    | some u =>
      obtain ⟨rfl, _⟩ := hS q
      rw [obj] at z
      exact absurd (congrArg Obj.data (Option.some.inj z)).symm ne
  have nsK : ∀ {b : Addr} {m : Str → Option Value}, s.heap.Ns b m → (hidT s.heap H).Ns b m := fun {b m} ⟨o, es, ep, z, d, rest⟩ => ⟨o, es, ep, hidT_get z (isL z (by rw [d]; exact fun z => by cases z)), d, rest⟩
  have kb : K.In (hidT s.heap H) := fun b o z => hidT_get (kin b o z) (by
    match q : H b with
    | none => rfl
    | some u =>
      obtain ⟨rfl, q2, _⟩ := hS q
      rw [z] at q2
      cases q2)
  have ok : HOk P w H s.heap := fun b u z => by
    obtain ⟨rfl, _, rfl⟩ := hS z
    exact ⟨obj, by rw [List.length_map]; exact few, vs, _, vals_ints hin, obj⟩
  have sq : SqL K H a (ns.map V.int) := by
    match q : K.lookup a with
    | none => exact .inl (.inr ⟨_, by rw [hH]; exact if_pos ⟨rfl, by rw [q]; rfl⟩⟩)
    | some o =>
      have z := kin a o q
      rw [obj] at z
      obtain rfl := Option.some.inj z
      exact .inr ⟨_, vs.toArray, _, q, rfl, rfl, rfl, by rw [List.size_toArray, hin.length]; exact few, by simpa using vals_ints hin⟩
  have e0 : Env0 P w K mg (hidT s.heap H) callerA [] s H :=
    { frames := rfl, mod := ⟨kb, nsK gl, ⟨mb, nsK bl, blt⟩, lim.imp fun _ z => ⟨nsK z.1, z.2⟩⟩, bs := fun _ _ z => of_hidT z, bsz := Nat.le_of_eq (hidT_size _ _), funs := trivial, frf := fun b z => absurd (show b ∈ ([] : List Addr) from z) List.not_mem_nil, hok := ok, bare := .of_eq gens }
  refine codeAny_mono (runs _ H kb (nsK gl) sq e0) fun r s' z => ?_
  match r, z with
  | .ok (.ret u), ⟨v, H', os, bare, un, ok', rv, hv⟩ =>
    obtain rfl : v = .bl true := hv
    obtain rfl : u = Value.bool true := rv
    refine ⟨rfl, OldK.of_keep fun b o z => ?_, os, bare⟩
    match q : H b with
    | none => exact un.keep b o z q (fun y => absurd (show b ∈ ([] : List Addr) from y) List.not_mem_nil) List.not_mem_nil
    | some u =>
      obtain ⟨rfl, _, rfl⟩ := hS q
      have still := (ok' b _ (un.frzs b _ _ q)).1
      rw [obj] at z
      rw [still, ← z]
end
theorem walk_here {l : PySem.W.OpenLaw} {n : Nat} {q : Program} {loose : List Str} {XP : (Str → Option Value) → Heap → Prop} {YP : World → Heap → Prop} {d : DefRec} (hn : l.most = some n) (hn2 : n ≤ sizeLine) (hdf : d.params.defaults = [])
    (F : ∀ (w : World) (mg : Str → Option Value) (fa : Addr) (h : Heap), YP w h → h.Ns mainGlobals mg → mg d.name = some (.ref fa) →
      ∃ K : PySem.W.Frag, K.In h ∧ ∀ (base : Heap) (s : Shared) (H : Hp) (a : Addr) (ns : List Int), K.In base → base.Ns mainGlobals mg → ns.length ≤ n → SqL K H a (ns.map V.int) → Env0 l.prog w K mg base callerA [] s H →
        codeAny (model l.prog w) callerA (.call (.ref fa) ⟨[.ref a], []⟩) (CR CX0 [] l.prog w H s (fun v _ => v = .bl true) E0) s) :
    PySem.W.WalkO q loose XP YP l.row.toRowW d [] (fun f vs => PySem.call f vs) := by
  refine Att.attach_call hn hdf fun w _ s mg mb fa _ _ _ _ a vs ns G Y _ _ _ hmg obj hin few gens => ?_
  obtain ⟨K, kin, runs⟩ := F w mg fa _ Y G.T.g hmg
  exact call_here kin G.T.g G.T.b G.T.builtins G.T.nolimit gens obj hin (Nat.le_trans few hn2) fun base H h1 h2 h3 h4 => runs base s H a ns h1 h2 few h3 h4
end K78

/-! text E2 -/
set_option Elab.async false
set_option linter.all false
set_option maxRecDepth 100000
set_option maxHeartbeats 4000000
namespace K78
open PySem PySem.Spec PyProof.Rows L2
/-! ### the head: facts by names, the run -/
def fn : List He.DefD := [
  ⟨("is_integer", none), "is_integer", "is_integer", defArgs s_is_integer, defBody s_is_integer, defScope s_is_integer, [], []⟩,
  ⟨("is_number", none), "is_number", "is_number", defArgs s_is_number, defBody s_is_number, defScope s_is_number, [], []⟩,
  ⟨("is_sequence", none), "is_sequence", "is_sequence", defArgs s_is_sequence, defBody s_is_sequence, defScope s_is_sequence, [], []⟩,
  ⟨("is_index", none), "is_index", "is_index", defArgs s_is_index, defBody s_is_index, defScope s_is_index, [], []⟩,
  ⟨("followed", none), "followed", "followed", defArgs s_followed, defBody s_followed, defScope s_followed, [], []⟩,
  ⟨("single_effects", none), "single_effects", "single_effects", defArgs s_single_effects, defBody s_single_effects, defScope s_single_effects, [], []⟩,
  ⟨("all_effects", none), "all_effects", "all_effects", defArgs s_all_effects, defBody s_all_effects, defScope s_all_effects, [], []⟩,
  ⟨("mirrored", none), "mirrored", "mirrored", defArgs s_mirrored, defBody s_mirrored, defScope s_mirrored, [], []⟩,
  ⟨("onward", none), "onward", "onward", defArgs s_onward, defBody s_onward, defScope s_onward, [], []⟩,
  ⟨("all_behind", none), "all_behind", "all_behind", defArgs s_all_behind, defBody s_all_behind, defScope s_all_behind, [], []⟩,
  ⟨("at_count", none), "at_count", "at_count", defArgs s_at_count, defBody s_at_count, defScope s_at_count, [], []⟩,
  ⟨("coarser", none), "coarser", "coarser", defArgs s_coarser, defBody s_coarser, defScope s_coarser, [], []⟩,
  ⟨("all_joined", none), "all_joined", "all_joined", defArgs s_all_joined, defBody s_all_joined, defScope s_all_joined, [], []⟩,
  ⟨("layers_of", none), "layers_of", "layers_of", defArgs s_layers_of, defBody s_layers_of, defScope s_layers_of, [], []⟩,
  ⟨("opened", none), "opened", "opened", defArgs s_opened, defBody s_opened, defScope s_opened, [], []⟩,
  ⟨("carried", none), "carried", "carried", defArgs s_carried, defBody s_carried, defScope s_carried, [], []⟩,
  ⟨("pairs_after", none), "pairs_after", "pairs_after", defArgs s_pairs_after, defBody s_pairs_after, defScope s_pairs_after, [], []⟩,
  ⟨("unlike_commands", none), "unlike_commands", "unlike_commands", defArgs s_unlike_commands, defBody s_unlike_commands, defScope s_unlike_commands, [], []⟩,
  ⟨("rounds", none), "rounds", "rounds", defArgs s_rounds, defBody s_rounds, defScope s_rounds, [], []⟩,
  ⟨("clashing", none), "clashing", "clashing", defArgs s_clashing, defBody s_clashing, defScope s_clashing, [], []⟩,
  ⟨("lets", none), "lets", "lets", defArgs s_lets, defBody s_lets, defScope s_lets, [], []⟩,
  ⟨("may_exchange", none), "may_exchange", "may_exchange", defArgs s_may_exchange, defBody s_may_exchange, defScope s_may_exchange, [], []⟩,
  ⟨("primes_of", none), "primes_of", "primes_of", defArgs s_primes_of, defBody s_primes_of, defScope s_primes_of, [], []⟩,
  ⟨("numbers", none), "numbers", "numbers", defArgs s_numbers, defBody s_numbers, defScope s_numbers, [], []⟩,
  ⟨("_law_draw", none), "_law_draw", "_law_draw", defArgs s_l_draw, defBody s_l_draw, defScope s_l_draw, [], []⟩,
  ⟨("_law_any", none), "_law_any", "_law_any", defArgs s_l_any, defBody s_l_any, defScope s_l_any, [], []⟩,
  ⟨("_law_of", none), "_law_of", "_law_of", defArgs s_l_of, defBody s_l_of, defScope s_l_of, [], []⟩,
  ⟨("_law_mixed", none), "_law_mixed", "_law_mixed", defArgs s_l_mixed, defBody s_l_mixed, defScope s_l_mixed, [], []⟩,
  ⟨("_law_view", none), "_law_view", "_law_view", defArgs s_l_view, defBody s_l_view, defScope s_l_view, [], []⟩,
  ⟨("_law_first", none), "_law_first", "_law_first", defArgs s_l_first, defBody s_l_first, defScope s_l_first, [], []⟩,
  ⟨("_law_last", none), "_law_last", "_law_last", defArgs s_l_last, defBody s_l_last, defScope s_l_last, [], []⟩,
  ⟨("_law_wheel", none), "_law_wheel", "_law_wheel", defArgs s_l_wheel, defBody s_l_wheel, defScope s_l_wheel, [], []⟩,
  ⟨("_law_named", none), "_law_named", "_law_named", defArgs s_l_named, defBody s_l_named, defScope s_l_named, [], []⟩,
  ⟨("_law_awaited", none), "_law_awaited", "_law_awaited", defArgs s_l_awaited, defBody s_l_awaited, defScope s_l_awaited, [], []⟩,
  ⟨("_law_built", none), "_law_built", "_law_built", defArgs s_l_built, defBody s_l_built, defScope s_l_built, [], []⟩,
  ⟨("_law_machine", none), "_law_machine", "_law_machine", defArgs s_l_machine, defBody s_l_machine, defScope s_l_machine, [], []⟩,
  ⟨("_law_led", none), "_law_led", "_law_led", defArgs s_l_led, defBody s_l_led, defScope s_l_led, [], []⟩,
  ⟨("_law_carried", none), "_law_carried", "_law_carried", defArgs s_l_carried, defBody s_l_carried, defScope s_l_carried, [], []⟩,
  ⟨("_law_may", none), "_law_may", "_law_may", defArgs s_l_may, defBody s_l_may, defScope s_l_may, [], []⟩,
  ⟨("_law_end", none), "_law_end", "_law_end", defArgs s_l_end, defBody s_l_end, defScope s_l_end, [], []⟩,
  ⟨("_law_effect", none), "_law_effect", "_law_effect", defArgs s_l_effect, defBody s_l_effect, defScope s_l_effect, [], []⟩,
  ⟨("_law_steps", none), "_law_steps", "_law_steps", defArgs s_l_steps, defBody s_l_steps, defScope s_l_steps, [], []⟩,
  ⟨("_law_effects", none), "_law_effects", "_law_effects", defArgs s_l_effects, defBody s_l_effects, defScope s_l_effects, [], []⟩,
  ⟨("_law_mirror", none), "_law_mirror", "_law_mirror", defArgs s_l_mirror, defBody s_l_mirror, defScope s_l_mirror, [], []⟩,
  ⟨("law", none), "law", "law", defArgs s_law, defBody s_law, defScope s_law, [], []⟩,
  ⟨("Machine", some "__init__"), "__init__", "Machine.__init__", defArgs s_init, defBody s_init, defScope s_init, [], []⟩]
def fa : List He.Fa := [
  .glo "is_integer",
  .glo "is_number",
  .glo "is_sequence",
  .glo "is_index",
  .glo "followed",
  .glo "single_effects",
  .glo "all_effects",
  .glo "mirrored",
  .glo "onward",
  .glo "all_behind",
  .glo "at_count",
  .glo "coarser",
  .glo "all_joined",
  .glo "layers_of",
  .glo "opened",
  .glo "carried",
  .glo "pairs_after",
  .glo "unlike_commands",
  .glo "rounds",
  .glo "clashing",
  .glo "lets",
  .glo "may_exchange",
  .glo "primes_of",
  .glo "numbers",
  .glo "_law_draw",
  .glo "_law_any",
  .glo "_law_of",
  .glo "_law_mixed",
  .glo "_law_view",
  .glo "_law_first",
  .glo "_law_last",
  .glo "_law_wheel",
  .glo "_law_named",
  .glo "_law_awaited",
  .glo "_law_built",
  .glo "_law_machine",
  .glo "_law_led",
  .glo "_law_carried",
  .glo "_law_may",
  .glo "_law_end",
  .glo "_law_effect",
  .glo "_law_steps",
  .glo "_law_effects",
  .glo "_law_mirror",
  .glo "law",
  .glo "Machine",
  .cls "Machine",
  .noat "Machine" "commands",
  .noat "Machine" "states",
  .noat "Machine" "steps",
  .mkr "Machine",
  .int "MOST_ROUNDS" 5000,
  .free "isinstance",
  .free "int",
  .free "bool",
  .free "list",
  .free "tuple",
  .free "len",
  .free "enumerate",
  .free "all",
  .free "range",
  .free "sorted",
  .free "zip",
  .free "min",
  .free "max",
  .free "abs",
  .free "repr"]
abbrev R : PySem.W.OpenRow := PySem.W.OpenLaw.row PySem.Challenge.rw_endsandround_k78_whole_rows_read_from_th
abbrev hk : PySem.W.Hook := He.hookD 6 fa fn
def ob (s : PySem.W.SharedT) : He.AlD := He.obsDG 6 fa fn (HandSHeadRun.getT s)
theorem ob_eq (s : PySem.W.SharedT) : ob s = hk.obs s.abs := He.obsDG_eq (HandSHeadRun.getT_eq s)
def loose : List PySem.Str := (["EndsError", "InvalidMachine", "Refused", "Machine", "MOST_ROUNDS", "is_integer", "is_number", "is_sequence", "is_index", "followed", "single_effects", "all_effects", "mirrored", "onward", "all_behind", "at_count", "coarser", "all_joined", "layers_of", "opened", "carried", "pairs_after", "unlike_commands", "rounds", "clashing", "lets", "may_exchange", "primes_of", "numbers", "_law_draw"] : List PySem.Str) ++ (["_law_any", "_law_of", "_law_mixed", "_law_view", "_law_first", "_law_last", "_law_wheel", "_law_named", "_law_awaited", "_law_built", "_law_machine", "_law_led", "_law_carried", "_law_may", "_law_end", "_law_effect", "_law_steps", "_law_effects", "_law_mirror"] : List PySem.Str)
theorem run (w : World) : HandSHeadRun.RunEq R (PySem.W.view R.prog [57]) hk ob 4000 loose w := by
  intro os
  kernel_rfl
theorem hasD {K : PySem.W.Frag} {h : Heap} {mg : Str → Option Value} (X : K.In h) (G : h.Ns mainGlobals mg) {x : Str} {st : Stmt} (g : (He.Fa.glo x).ok K = true) (d : ∃ fd, FnP K x st (He.ga K x) fd) : HasD K mg x st := ⟨_, d.choose, He.glo_ok X G g, d.choose_spec⟩
theorem law_runs {P : Program} {w : World} {K : PySem.W.Frag} {h base : Heap} {mg : Str → Option Value} {f a : Addr} {s : Shared} {H : Hp} {ns : List Int} (X : K.In h) (G : h.Ns mainGlobals mg) (hfa : mg ("law" : Str) = some (.ref f)) (c : He.SaysD fa fn K) (few : ns.length ≤ 63) (sq : SqL K H a (ns.map V.int)) (env0 : Env0 P w K mg base callerA [] s H) :
    codeAny (model P w) callerA (.call (.ref f) ⟨[.ref a], []⟩) (CR CX0 [] P w H s (fun v _ => v = .bl true) E0) s := by
  have T : Txt K mg (He.ga K "Machine") := ⟨He.free_ok X G (c.fact 52 rfl), He.free_ok X G (c.fact 53 rfl), He.free_ok X G (c.fact 54 rfl), He.free_ok X G (c.fact 55 rfl), He.free_ok X G (c.fact 56 rfl), He.free_ok X G (c.fact 57 rfl), He.free_ok X G (c.fact 58 rfl), He.free_ok X G (c.fact 59 rfl), He.free_ok X G (c.fact 60 rfl), He.free_ok X G (c.fact 61 rfl), He.free_ok X G (c.fact 62 rfl), He.free_ok X G (c.fact 63 rfl), He.free_ok X G (c.fact 64 rfl), He.free_ok X G (c.fact 65 rfl), He.free_ok X G (c.fact 66 rfl), He.int_ok X G (c.fact 51 rfl), He.glo_ok X G (c.fact 45 rfl), He.cls_ok (c.fact 46 rfl), He.noat_ok (c.fact 47 rfl), He.noat_ok (c.fact 48 rfl), He.noat_ok (c.fact 49 rfl)⟩
  have d_l_any := ok_l_any (P := P) (w := w) (base := base) T (hasD X G (c.fact 25 rfl) (c.def_ 25 rfl)) 
  have d_l_draw := ok_l_draw (P := P) (w := w) (base := base) T (hasD X G (c.fact 24 rfl) (c.def_ 24 rfl)) 
  have d_l_of := ok_l_of (P := P) (w := w) (base := base) T (hasD X G (c.fact 26 rfl) (c.def_ 26 rfl)) d_l_any
  have d_l_mixed := ok_l_mixed (P := P) (w := w) (base := base) T (hasD X G (c.fact 27 rfl) (c.def_ 27 rfl)) d_l_any
  have d_l_view := ok_l_view (P := P) (w := w) (base := base) T (hasD X G (c.fact 28 rfl) (c.def_ 28 rfl)) d_l_any
  have d_l_first := ok_l_first (P := P) (w := w) (base := base) T (hasD X G (c.fact 29 rfl) (c.def_ 29 rfl)) 
  have d_l_last := ok_l_last (P := P) (w := w) (base := base) T (hasD X G (c.fact 30 rfl) (c.def_ 30 rfl)) 
  have d_l_wheel := ok_l_wheel (P := P) (w := w) (base := base) T (hasD X G (c.fact 31 rfl) (c.def_ 31 rfl)) 
  have d_l_named := ok_l_named (P := P) (w := w) (base := base) T (hasD X G (c.fact 32 rfl) (c.def_ 32 rfl)) d_l_mixed
  have d_l_awaited := ok_l_awaited (P := P) (w := w) (base := base) T (hasD X G (c.fact 33 rfl) (c.def_ 33 rfl)) d_l_any d_l_of
  have d_l_built := ok_l_built (P := P) (w := w) (base := base) T (hasD X G (c.fact 34 rfl) (c.def_ 34 rfl)) d_l_any d_l_of d_l_mixed d_l_view d_l_first d_l_last d_l_wheel d_l_named d_l_awaited
  have d_l_machine := ok_l_machine (P := P) (w := w) (base := base) T (hasD X G (c.fact 35 rfl) (c.def_ 35 rfl)) d_l_any d_l_of d_l_mixed d_l_built
  have d_l_steps := ok_l_steps (P := P) (w := w) (base := base) T (hasD X G (c.fact 41 rfl) (c.def_ 41 rfl)) d_l_any d_l_built d_l_machine
  have d_l_effects := ok_l_effects (P := P) (w := w) (base := base) T (hasD X G (c.fact 42 rfl) (c.def_ 42 rfl)) 
  have d_single_effects := ok_single_effects (P := P) (w := w) (base := base) T (hasD X G (c.fact 5 rfl) (c.def_ 5 rfl)) 
  have d_followed := ok_followed (P := P) (w := w) (base := base) T (hasD X G (c.fact 4 rfl) (c.def_ 4 rfl)) 
  have d_all_effects := ok_all_effects (P := P) (w := w) (base := base) T (hasD X G (c.fact 6 rfl) (c.def_ 6 rfl)) d_single_effects d_followed
  have d_is_integer := ok_is_integer (P := P) (w := w) (base := base) T (hasD X G (c.fact 0 rfl) (c.def_ 0 rfl)) 
  have d_is_sequence := ok_is_sequence (P := P) (w := w) (base := base) T (hasD X G (c.fact 2 rfl) (c.def_ 2 rfl)) 
  have d_is_number := ok_is_number (P := P) (w := w) (base := base) T (hasD X G (c.fact 1 rfl) (c.def_ 1 rfl)) d_is_integer
  have d_is_index := ok_is_index (P := P) (w := w) (base := base) T (hasD X G (c.fact 3 rfl) (c.def_ 3 rfl)) d_is_number
  obtain ⟨fdM, FM⟩ := c.def_ 45 rfl
  have MM : MkMach P w K mg base (He.ga K "Machine") := ⟨⟨_, fdM, He.mkr_ok (c.fact 50 rfl), FunD.bindsN (ps := ["self", "commands", "steps"]) FM (fun _ _ _ _ _ _ us hl => match us, hl with | [_, _, _], _ => rfl), ok_init T FM d_is_integer d_is_sequence d_is_index⟩, T.mC⟩
  have d_mirrored := ok_mirrored (P := P) (w := w) (base := base) T (hasD X G (c.fact 7 rfl) (c.def_ 7 rfl)) MM d_all_effects d_single_effects d_followed
  have d_l_mirror := ok_l_mirror (P := P) (w := w) (base := base) T (hasD X G (c.fact 43 rfl) (c.def_ 43 rfl)) 
  have d_l_end := ok_l_end (P := P) (w := w) (base := base) T (hasD X G (c.fact 39 rfl) (c.def_ 39 rfl)) 
  have d_l_effect := ok_l_effect (P := P) (w := w) (base := base) T (hasD X G (c.fact 40 rfl) (c.def_ 40 rfl)) d_l_end
  have d_onward := ok_onward (P := P) (w := w) (base := base) T (hasD X G (c.fact 8 rfl) (c.def_ 8 rfl)) 
  have d_all_behind := ok_all_behind (P := P) (w := w) (base := base) T (hasD X G (c.fact 9 rfl) (c.def_ 9 rfl)) d_onward
  have d_unlike_commands := ok_unlike_commands (P := P) (w := w) (base := base) T (hasD X G (c.fact 17 rfl) (c.def_ 17 rfl)) 
  have d_opened := ok_opened (P := P) (w := w) (base := base) T (hasD X G (c.fact 14 rfl) (c.def_ 14 rfl)) 
  have d_carried := ok_carried (P := P) (w := w) (base := base) T (hasD X G (c.fact 15 rfl) (c.def_ 15 rfl)) 
  have d_rounds := ok_rounds (P := P) (w := w) (base := base) T (hasD X G (c.fact 18 rfl) (c.def_ 18 rfl)) d_all_behind d_unlike_commands d_opened d_carried
  have d_coarser := ok_coarser (P := P) (w := w) (base := base) T (hasD X G (c.fact 11 rfl) (c.def_ 11 rfl)) 
  have d_all_joined := ok_all_joined (P := P) (w := w) (base := base) T (hasD X G (c.fact 12 rfl) (c.def_ 12 rfl)) d_coarser
  have d_layers_of := ok_layers_of (P := P) (w := w) (base := base) T (hasD X G (c.fact 13 rfl) (c.def_ 13 rfl)) d_all_behind d_all_joined
  have d_at_count := ok_at_count (P := P) (w := w) (base := base) T (hasD X G (c.fact 10 rfl) (c.def_ 10 rfl)) 
  have d_clashing := ok_clashing (P := P) (w := w) (base := base) T (hasD X G (c.fact 19 rfl) (c.def_ 19 rfl)) 
  have d_pairs_after := ok_pairs_after (P := P) (w := w) (base := base) T (hasD X G (c.fact 16 rfl) (c.def_ 16 rfl)) d_opened d_carried
  have d_lets := ok_lets (P := P) (w := w) (base := base) T (hasD X G (c.fact 20 rfl) (c.def_ 20 rfl)) d_at_count d_unlike_commands d_clashing d_pairs_after
  have d_primes_of := ok_primes_of (P := P) (w := w) (base := base) T (hasD X G (c.fact 22 rfl) (c.def_ 22 rfl)) 
  have d_numbers := ok_numbers (P := P) (w := w) (base := base) T (hasD X G (c.fact 23 rfl) (c.def_ 23 rfl)) d_rounds d_layers_of d_lets d_primes_of
  have d_may_exchange := ok_may_exchange (P := P) (w := w) (base := base) T (hasD X G (c.fact 21 rfl) (c.def_ 21 rfl)) d_lets d_layers_of
  have d_l_led := ok_l_led (P := P) (w := w) (base := base) T (hasD X G (c.fact 36 rfl) (c.def_ 36 rfl)) 
  have d_l_carried := ok_l_carried (P := P) (w := w) (base := base) T (hasD X G (c.fact 37 rfl) (c.def_ 37 rfl)) 
  have d_l_may := ok_l_may (P := P) (w := w) (base := base) T (hasD X G (c.fact 38 rfl) (c.def_ 38 rfl)) d_l_led d_l_carried
  obtain ⟨fdL, FL⟩ := c.def_ 44 rfl
  have e := hfa.symm.trans (He.glo_ok X G (c.fact 44 rfl))
  cases e
  refine run_here (k := 6) (x := "law") (N := nLaw) (ps := ["_law_script"]) (vs := [.ref a]) (us := [.ref a]) FL sc_law ⟨rfl, by decide, by decide⟩ env0 (FunD.bindsA (ps := ["_law_script"]) FL (fun _ _ _ _ _ _ us hl => match us, hl with | [_], _ => rfl) s [.ref a] rfl) (.cons rfl .nil) rfl fun cdv hr => ?_
  exact law_body T law_ok MM d_l_any d_l_draw d_l_steps d_l_effects d_mirrored d_l_mirror d_l_end d_l_effect d_numbers d_may_exchange d_l_may _ cdv callerA [] s H [.ref a] (fun v _ => v = .bl true) E0 hr rfl ⟨a, ns, rfl, sq, few, fun _ => rfl⟩
end K78
open PySem PySem.W PySem.Calls PyProof.Rows
theorem PySem.Challenge.cw_endsandround_k78_whole_rows_read_from_th_holds : PySem.Challenge.rw_endsandround_k78_whole_rows_read_from_th.Holds := by
  w_on; o_law
  refine HandSHeadRun.head_any (r := OpenLaw.row PySem.Challenge.rw_endsandround_k78_whole_rows_read_from_th) (q := view (OpenLaw.row PySem.Challenge.rw_endsandround_k78_whole_rows_read_from_th).prog [57]) (H := K78.hk) (ob := K78.ob) (M := 4000) (loose := K78.loose) (d := HandSHeadRun.topDef (OpenLaw.row PySem.Challenge.rw_endsandround_k78_whole_rows_read_from_th).prog 57) (kwd := []) K78.ob_eq
    (by kernel_rfl) (fun s => by kernel_rfl) K78.run (by kernel_rfl) (by kernel_rfl) (by kernel_rfl) (by rfl) (by first | assumption | decide +kernel) (by decide +kernel) ⟨rfl, rfl, rfl, rfl, rfl, by decide +kernel⟩ ?hw ?hc
  case hw => w_witness2
  case hc =>
    refine K78.walk_here (l := PySem.Challenge.rw_endsandround_k78_whole_rows_read_from_th) (n := 63) rfl (by decide) (by kernel_rfl) ?F
    intro w mg fa h Y G hmg0
    obtain ⟨K, KX, c⟩ := Y
    have hmg : mg ("law" : PySem.Str) = some (.ref fa) := by
      have e : (HandSHeadRun.topDef (OpenLaw.row PySem.Challenge.rw_endsandround_k78_whole_rows_read_from_th).prog 57).name = ("law" : PySem.Str) := by kernel_rfl
      rw [← e]
      exact hmg0
    exact ⟨K, KX, fun base s H a ns _ _ few sq env0 => K78.law_runs KX G hmg c few sq env0⟩

