import PyProof.Rows.All
import Wide.All
import OpenK.AllK
import Wide.FinOn
import HandS.ForMost
import HandS.Style
import HandS.Deep
import HandS.IsInst
import HandS.Property
import HandS.OwnEq
import HandS.Codes
import KE.SortData
import KE.GoesSet
import KE.KExcSuper
import HandS.Nested
import HandS.ClsMeth
import HandS.ExcInit
import HandS.WordsExc
import HandS.ExcField
import HandS.ExcIs
import HandS.TryMany
import KE.KExcIs
import KE.GoesMore
import HandS.Set
import HandS.SetBool
import HandS.TupSets
import KE.OsSortAny
import PySem.Challenge.RW_watchedworks_k00_hands_told_and_refused
set_option Elab.async false
set_option linter.all false
set_option maxRecDepth 100000
set_option maxHeartbeats 4000000
/-! generic words for the laws of this program, over the hand layer -/
namespace WW
open PySem PySem.Spec PyProof.Rows L2

/-! ### a def of the text -/
structure Df (K : PySem.W.Frag) (mg : Str → Option Value) (x : Str) (st : Stmt) (ps : List Str) (f : Addr) (fd : FuncData) : Prop where
  fn : Fun K x x st f fd
  gl : mg x = some (.ref f)
  bi : Binds K fd ps []

section
variable {X : Cx} {k : Nat} {x : Str} {st : Stmt} {ps : List Str} {f : Addr} {fd : FuncData} {sp : Sp} {e : Expr} {es : List Expr} {p pos : Pos} {t : TA}
theorem pe_df (D : Df X.K X.mg x st ps f fd) (F : FnOk X.prog X.w X.K X.mg X.base CX0 k f fd ps sp) (hr : Room k X.A) (ha : PA X (e :: es) t) (hg : Gl X x := by rfl)
    (hdb : (x == ("__debug__" : Str)) = false := by decide) (he : starEach (e :: es) X.env = (false, eval e X.env) :: starEach es X.env := by rfl) (hpl : (backTo pos (starEach es X.env)).any (·.1) = false := by rfl) :
    PE X (.Call (.Name x p) (e :: es) [] pos) (tCall sp [] E0 t) :=
  pe_call F hr hg D.gl D.fn.kp D.bi .nil pass0 ha hdb he hpl
end
theorem hu65 {A : Around} {k : Nat} (hr : Room k A) : A.units + 65 < cLine := by
  have := hr.un
  omega

/-! ### heaps: a stable part S of the heap H, and what may change -/
theorem Same.seqT {K : PySem.W.Frag} {H H' : Hp} {a : Addr} {xs : List V} (e : Same H H') (h : SqT K H a xs) : SqT K H' a xs := by
  rcases h with (h | ⟨o, h⟩) | h
  · exact .inl (.inl (e _ _ h))
  · exact .inl (.inr ⟨o, e _ _ h⟩)
  · exact .inr h
mutual
theorem dp_mono {K : PySem.W.Frag} {S H : Hp} (e : Same S H) : ∀ (d : PyData) {v : V}, Dp K S v d → Dp K H v d
  | .none, _, h => by cases h; exact .non
  | .bool b, _, h => by cases h; exact .bl b
  | .int i, _, h => by cases h; exact .int i
  | .str x, _, h => by cases h; exact .str x
  | .list ds, _, h => by
    cases h with
    | lst a b => exact .lst (e.seq a) (dpAll_mono e ds b)
  | .tuple ds, _, h => by
    cases h with
    | tup a b => exact .tup (Same.seqT e a) (dpAll_mono e ds b)
  | .dict _, _, h => by cases h
theorem dpAll_mono {K : PySem.W.Frag} {S H : Hp} (e : Same S H) : ∀ (ds : List PyData) {vs : List V}, DpAll K S vs ds → DpAll K H vs ds
  | [], _, h => by cases h; exact .nil
  | d :: ds, _, h => by
    cases h with
    | cons a b => exact .cons (dp_mono e d a) (dpAll_mono e ds b)
end
theorem Dp.mono {K : PySem.W.Frag} {S H : Hp} {d : PyData} {v : V} (e : Same S H) (h : Dp K S v d) : Dp K H v d := dp_mono e d h
theorem DpAll.mono {K : PySem.W.Frag} {S H : Hp} {ds : List PyData} {vs : List V} (e : Same S H) (h : DpAll K S vs ds) : DpAll K H vs ds := dpAll_mono e ds h
theorem same_upd {H : Hp} {p : Addr} {o : HO} (h : H p = none) : Same H (upd H p o) := fun b x e => by
  rw [upd_ne (ne_of_none e h)]
  exact e

/-- from (S, H) to (S', H'): the stable part grows by new objects alone, all but p stand as they stood -/
structure Gr (p : Addr) (S H S' H' : Hp) : Prop where
  st : Same S S'
  rs : ∀ a o, a ≠ p → H a = some o → H' a = some o
  fr : ∀ a, S a = none → H a ≠ none → S' a = none
  ex : ∀ a, H a ≠ none → H' a ≠ none
theorem Gr.refl {p : Addr} {S H : Hp} : Gr p S H S H := ⟨Same.refl _, fun _ _ _ h => h, fun _ h _ => h, fun _ h => h⟩
theorem Gr.trans {p : Addr} {S H S1 H1 S2 H2 : Hp} (a : Gr p S H S1 H1) (b : Gr p S1 H1 S2 H2) : Gr p S H S2 H2 :=
  ⟨a.st.trans b.st, fun c o n h => b.rs c o n (a.rs c o n h), fun c h1 h2 => b.fr c (a.fr c h1 h2) (a.ex c h2), fun c h => b.ex c (a.ex c h)⟩
theorem Gr.bk {p : Addr} {S H S' H' : Hp} (g : Gr p S H S' H') {a : Addr} (h : H' a = none) : H a = none := by
  cases q : H a with
  | none => rfl
  | some o => exact absurd h (g.ex a (by rw [q]; intro z; cases z))
theorem Gr.loc {p : Addr} {S H S' H' : Hp} (g : Gr p S H S' H') {a : Addr} {o : HO} (n : a ≠ p) (hs : S a = none) (h : H a = some o) : S' a = none ∧ H' a = some o :=
  ⟨g.fr a hs (by rw [h]; intro z; cases z), g.rs a o n h⟩
/-- a new object, stable -/
theorem Gr.new {p : Addr} {S H S' H' : Hp} (g : Gr p S H S' H') (w : Same S' H') {a : Addr} {o : HO} (n : H' a = none) : Gr p S H (upd S' a o) (upd H' a o) := by
  have hs : S' a = none := w.free n
  refine ⟨g.st.trans (same_upd hs), fun b u nb h => ?_, fun b h1 h2 => ?_, fun b h => ?_⟩
  · have nba : b ≠ a := fun q => by
      rw [q] at h
      rw [g.bk n] at h
      cases h
    rw [upd_ne nba]
    exact g.rs b u nb h
  · have nba : b ≠ a := fun q => by
      rw [q] at h2
      exact h2 (g.bk n)
    rw [upd_ne nba]
    exact g.fr b h1 h2
  · by_cases q : b = a
    · rw [q, upd_same]
      intro z
      cases z
    · rw [upd_ne q]
      exact g.ex b h
theorem same_new {S H : Hp} (w : Same S H) {a : Addr} {o : HO} : Same (upd S a o) (upd H a o) := fun b u h => by
  by_cases q : b = a
  · rw [q, upd_same] at h
    rw [q, upd_same]
    exact h
  · rw [upd_ne q] at h
    rw [upd_ne q]
    exact w b u h
/-- a new object, or one that was new and is not stable yet, is written -/
theorem Gr.put {p : Addr} {S H S' H' : Hp} (g : Gr p S H S' H') {a : Addr} {o : HO} (n : H a = none) : Gr p S H S' (upd H' a o) := by
  refine ⟨g.st, fun b u nb h => ?_, g.fr, fun b h => ?_⟩
  · have nba : b ≠ a := fun q => by
      rw [q, n] at h
      cases h
    rw [upd_ne nba]
    exact g.rs b u nb h
  · by_cases q : b = a
    · rw [q, upd_same]
      intro z
      cases z
    · rw [upd_ne q]
      exact g.ex b h
/-- .. p itself is written -/
theorem Gr.putP {p : Addr} {S H S' H' : Hp} (g : Gr p S H S' H') {o : HO} : Gr p S H S' (upd H' p o) := by
  refine ⟨g.st, fun b u nb h => ?_, g.fr, fun b h => ?_⟩
  · rw [upd_ne nb]
    exact g.rs b u nb h
  · by_cases q : b = p
    · rw [q, upd_same]
      intro z
      cases z
    · rw [upd_ne q]
      exact g.ex b h
theorem same_put {S H : Hp} (w : Same S H) {a : Addr} {o : HO} (n : S a = none) : Same S (upd H a o) := fun b u h => by
  rw [upd_ne (ne_of_none h n)]
  exact w b u h
/-- what was new and stands there becomes stable -/
theorem Gr.fix {p : Addr} {S H S' H' : Hp} (g : Gr p S H S' H') {a : Addr} {o : HO} (n : H a = none) (h : S' a = none) : Gr p S H (upd S' a o) H' := by
  refine ⟨g.st.trans (same_upd h), g.rs, fun b h1 h2 => ?_, g.ex⟩
  have nba : b ≠ a := fun q => by
    rw [q] at h2
    exact h2 n
  rw [upd_ne nba]
  exact g.fr b h1 h2
theorem same_fix {S H : Hp} (w : Same S H) {a : Addr} {o : HO} (h : H a = some o) : Same (upd S a o) H := fun b u e => by
  by_cases q : b = a
  · rw [q, upd_same] at e
    rw [q, h]
    exact e
  · rw [upd_ne q] at e
    exact w b u e

/-! ### slices by numbers -/
theorem cut_from (xs : List V) (i : Nat) : cutV xs (some (i : Int)) none = xs.drop i := by
  unfold cutV
  rw [HT.sIx_nat, HT.sIx_none]
  by_cases h : i ≤ xs.length
  · rw [Nat.min_eq_left h]
    exact List.take_of_length_le (by rw [List.length_drop]; exact Nat.le_refl _)
  · rw [Nat.min_eq_right (by omega), List.drop_of_length_le (Nat.le_refl _), List.drop_of_length_le (by omega)]
    simp
theorem cut_to (xs : List V) (i : Nat) : cutV xs none (some (i : Int)) = xs.take i := by
  unfold cutV
  rw [HT.sIx_nat, HT.sIx_none]
  show (xs.drop 0).take (min i xs.length - 0) = xs.take i
  rw [List.drop_zero, Nat.sub_zero]
  by_cases h : i ≤ xs.length
  · rw [Nat.min_eq_left h]
  · rw [Nat.min_eq_right (by omega), List.take_of_length_le (Nat.le_refl _), List.take_of_length_le (by omega)]
theorem cutS_to (z : Str) (i : Nat) : cutS z none (some (i : Int)) = ⟨(z.cps.toList.take i).toArray⟩ := by
  unfold cutS
  rw [HT.sIx_nat, HT.sIx_none]
  show (⟨((z.cps.toList.drop 0).take (min i z.length - 0)).toArray⟩ : Str) = _
  rw [List.drop_zero, Nat.sub_zero]
  have hl : z.length = z.cps.toList.length := by simp [Str.length]
  by_cases h : i ≤ z.length
  · rw [Nat.min_eq_left h]
  · rw [Nat.min_eq_right (by omega), List.take_of_length_le (by omega), List.take_of_length_le (by omega)]
theorem ixN_at {n : Nat} {k : Int} (j : Nat) (e : k = (j : Int)) (h : j < n) : ixN n k = some j := by
  subst e
  unfold ixN
  rw [if_pos (by omega), if_pos (by omega)]
  simp

/-! ### comprehensions whose element and test change nothing that stood -/
theorem fm_take {α β : Type} (f : α → Option β) : ∀ (xs : List α) (i : Nat) (x : α), xs[i]? = some x → (xs.take (i + 1)).filterMap f = (xs.take i).filterMap f ++ (match f x with | some y => [y] | none => [])
  | [], _, _, h => by simp at h
  | a :: r, 0, x, h => by
    have e : a = x := Option.some.inj h
    subst e
    simp only [List.take_succ_cons, List.take_zero, List.filterMap_cons, List.filterMap_nil]
    cases f a <;> rfl
  | a :: r, i + 1, x, h => by
    have ih := fm_take f r i x h
    simp only [List.take_succ_cons, List.filterMap_cons]
    cases f a with
    | none => exact ih
    | some y =>
      show y :: (r.take (i + 1)).filterMap f = _
      rw [ih]
      rfl
theorem lc_step {j : Nat} {tt : TT} {te : TE} {vs : List Nat} {σ : L2.St} {H1 : Hp} {D : Addr} (f : V → Option V) (xs : List V) (hlen : xs.length ≤ 1000)
    (hw : ∀ x, wipe ((wipe σ vs).set j (some x)) vs = wipe σ vs)
    (step : ∀ x H, x ∈ xs → Same H1 H → ∀ Q : Option V → Hp → Prop, (∀ H', Same H H' → Q (f x) H') → tt ((wipe σ vs).set j (some x)) H fun b H3 => if b = true then te ((wipe σ vs).set j (some x)) H3 (fun y H4 => Q (some y) H4) else Q none H3)
    (hD : H1 D = none) (i : Nat) (x : V) (H : Hp) (hi : xs[i]? = some x) (hp : Same H1 H ∧ H D = some (.lst ((xs.take i).filterMap f))) :
    gName j x (wipe σ vs) H fun σ2 H2 => wipe σ2 vs = wipe σ vs ∧ tt σ2 H2 fun b H3 =>
      if b = true then te σ2 H3 fun y H4 => ∃ acc, H4 D = some (.lst acc) ∧ acc.length < sizeLine ∧ (Same H1 (upd H4 D (.lst (acc ++ [y]))) ∧ upd H4 D (.lst (acc ++ [y])) D = some (.lst ((xs.take (i + 1)).filterMap f))) else (Same H1 H3 ∧ H3 D = some (.lst ((xs.take (i + 1)).filterMap f))) := by
  have hx : x ∈ xs := List.mem_of_getElem? hi
  refine ⟨hw x, ?_⟩
  refine step x H hx hp.1 (fun o H4 => match o with
    | some y => ∃ acc, H4 D = some (.lst acc) ∧ acc.length < sizeLine ∧ (Same H1 (upd H4 D (.lst (acc ++ [y]))) ∧ upd H4 D (.lst (acc ++ [y])) D = some (.lst ((xs.take (i + 1)).filterMap f)))
    | none => (Same H1 H4 ∧ H4 D = some (.lst ((xs.take (i + 1)).filterMap f)))) fun H' s => ?_
  have hd := s _ _ hp.2
  have e := fm_take f xs i x hi
  cases q : f x with
  | none =>
    rw [q] at e
    exact ⟨hp.1.trans s, by rw [hd, e, List.append_nil]⟩
  | some y =>
    rw [q] at e
    refine ⟨_, hd, ?_, fun b o h => ?_, by rw [upd_same, e]⟩
    · have h1 : ((xs.take i).filterMap f).length ≤ (xs.take i).length := List.length_filterMap_le _ _
      have h2 : (xs.take i).length ≤ xs.length := by rw [List.length_take]; omega
      exact small1000 (by omega)
    · rw [upd_ne (ne_of_none h hD)]
      exact s _ _ (hp.1 _ _ h)
theorem lc_pure {K : PySem.W.Frag} {a : Addr} {xs : List V} {j : Nat} {tt : TT} {te : TE} {vs : List Nat} {σ : L2.St} {H1 : Hp} {D : Addr} {Qd : Hp → Prop} (f : V → Option V) (hx : SqL K H1 a xs) (hlen : xs.length ≤ 1000)
    (hw : ∀ x, wipe ((wipe σ vs).set j (some x)) vs = wipe σ vs)
    (step : ∀ x H, x ∈ xs → Same H1 H → ∀ Q : Option V → Hp → Prop, (∀ H', Same H H' → Q (f x) H') → tt ((wipe σ vs).set j (some x)) H fun b H3 => if b = true then te ((wipe σ vs).set j (some x)) H3 (fun y H4 => Q (some y) H4) else Q none H3)
    (hD : H1 D = none) (hd : ∀ H, Same H1 H → H D = some (.lst (xs.filterMap f)) → Qd H) :
    ∃ W : Nat → Nat → Hp → Prop, (∃ m, W 0 m (upd H1 D (.lst []))) ∧ ∀ i m H, W i m H →
      ((Itl K a).stop i H ∧ Qd H) ∨ ((Itl K a).go i H ∧ ∃ Nx : Hp → Prop, (∀ H', Nx H' → ∃ m', m' < m ∧ W (i + 1) m' H') ∧ ∀ x H', (Itl K a).yld i H x H' → gName j x (wipe σ vs) H' fun σ2 H2 => wipe σ2 vs = wipe σ vs ∧ tt σ2 H2 fun b H3 =>
        if b = true then te σ2 H3 fun y H4 => ∃ acc, H4 D = some (.lst acc) ∧ acc.length < sizeLine ∧ Nx (upd H4 D (.lst (acc ++ [y]))) else Nx H3) :=
  lc_list (K := K) (a := a) (xs := xs) (fun i H => Same H1 H ∧ H D = some (.lst ((xs.take i).filterMap f))) ⟨same_upd hD, upd_same⟩ (fun i H _ h => h.1.seq hx) (fun i x H hi hp => lc_step f xs hlen hw step hD i x H hi hp)
    (fun H h => hd H h.1 (by have := h.2; rw [List.take_length] at this; exact this))
theorem lc_pureT {K : PySem.W.Frag} {a : Addr} {xs : List V} {j : Nat} {tt : TT} {te : TE} {vs : List Nat} {σ : L2.St} {H1 : Hp} {D : Addr} {Qd : Hp → Prop} (f : V → Option V) (hx : SqT K H1 a xs) (hlen : xs.length ≤ 1000)
    (hw : ∀ x, wipe ((wipe σ vs).set j (some x)) vs = wipe σ vs)
    (step : ∀ x H, x ∈ xs → Same H1 H → ∀ Q : Option V → Hp → Prop, (∀ H', Same H H' → Q (f x) H') → tt ((wipe σ vs).set j (some x)) H fun b H3 => if b = true then te ((wipe σ vs).set j (some x)) H3 (fun y H4 => Q (some y) H4) else Q none H3)
    (hD : H1 D = none) (hd : ∀ H, Same H1 H → H D = some (.lst (xs.filterMap f)) → Qd H) :
    ∃ W : Nat → Nat → Hp → Prop, (∃ m, W 0 m (upd H1 D (.lst []))) ∧ ∀ i m H, W i m H →
      ((Itt K a).stop i H ∧ Qd H) ∨ ((Itt K a).go i H ∧ ∃ Nx : Hp → Prop, (∀ H', Nx H' → ∃ m', m' < m ∧ W (i + 1) m' H') ∧ ∀ x H', (Itt K a).yld i H x H' → gName j x (wipe σ vs) H' fun σ2 H2 => wipe σ2 vs = wipe σ vs ∧ tt σ2 H2 fun b H3 =>
        if b = true then te σ2 H3 fun y H4 => ∃ acc, H4 D = some (.lst acc) ∧ acc.length < sizeLine ∧ Nx (upd H4 D (.lst (acc ++ [y]))) else Nx H3) :=
  lc_tup (K := K) (a := a) (xs := xs) (fun i H => Same H1 H ∧ H D = some (.lst ((xs.take i).filterMap f))) ⟨same_upd hD, upd_same⟩ (fun i H _ h => Same.seqT h.1 hx) (fun i x H hi hp => lc_step f xs hlen hw step hD i x H hi hp)
    (fun H h => hd H h.1 (by have := h.2; rw [List.take_length] at this; exact this))
/-- .. over a text -/
def signs (z : Str) : List V := z.cps.toList.map fun c => V.str ⟨#[c]⟩
theorem lc_pureS {x : Str} {j : Nat} {tt : TT} {te : TE} {vs : List Nat} {σ : L2.St} {H1 : Hp} {D : Addr} {Qd : Hp → Prop} (f : V → Option V) (hlen : x.length ≤ 1000)
    (hw : ∀ x, wipe ((wipe σ vs).set j (some x)) vs = wipe σ vs)
    (step : ∀ y H, y ∈ signs x → Same H1 H → ∀ Q : Option V → Hp → Prop, (∀ H', Same H H' → Q (f y) H') → tt ((wipe σ vs).set j (some y)) H fun b H3 => if b = true then te ((wipe σ vs).set j (some y)) H3 (fun y H4 => Q (some y) H4) else Q none H3)
    (hD : H1 D = none) (hd : ∀ H, Same H1 H → H D = some (.lst ((signs x).filterMap f)) → Qd H) :
    ∃ W : Nat → Nat → Hp → Prop, (∃ m, W 0 m (upd H1 D (.lst []))) ∧ ∀ i m H, W i m H →
      ((Its x).stop i H ∧ Qd H) ∨ ((Its x).go i H ∧ ∃ Nx : Hp → Prop, (∀ H', Nx H' → ∃ m', m' < m ∧ W (i + 1) m' H') ∧ ∀ y H', (Its x).yld i H y H' → gName j y (wipe σ vs) H' fun σ2 H2 => wipe σ2 vs = wipe σ vs ∧ tt σ2 H2 fun b H3 =>
        if b = true then te σ2 H3 fun y H4 => ∃ acc, H4 D = some (.lst acc) ∧ acc.length < sizeLine ∧ Nx (upd H4 D (.lst (acc ++ [y]))) else Nx H3) := by
  have hsz : x.cps.size = (signs x).length := by simp [signs]
  have hl2 : (signs x).length ≤ 1000 := by rw [← hsz]; exact hlen
  refine ⟨fun i m H => m = x.cps.size - i ∧ i ≤ x.cps.size ∧ Same H1 H ∧ H D = some (.lst (((signs x).take i).filterMap f)), ⟨_, rfl, Nat.zero_le _, same_upd hD, upd_same⟩, ?_⟩
  rintro i m H ⟨rfl, hi, hs, he⟩
  by_cases h : i < x.cps.size
  · refine .inr ⟨h, fun H => Same H1 H ∧ H D = some (.lst (((signs x).take (i + 1)).filterMap f)), fun H' h' => ⟨_, by omega, rfl, by omega, h'⟩, ?_⟩
    rintro y H' ⟨rfl, c, hc, rfl⟩
    refine lc_step f (signs x) hl2 hw step hD i _ H' ?_ ⟨hs, he⟩
    unfold signs
    rw [List.getElem?_map, Array.getElem?_toList, hc]
    rfl
  · refine .inl ⟨by show x.cps.size ≤ i; omega, hd H hs ?_⟩
    rw [he, List.take_of_length_le (by omega)]
theorem at_ofG {α : Type} {xs : List α} {z : Int} {j : Nat} {v : α} (e : z = (j : Int)) (h : xs[j]? = some v) : atI xs z = some v := by
  rw [e]
  exact atI_nat h
theorem Gr.same {p : Addr} {S H S' H' H2 : Hp} (g : Gr p S H S' H') (s : Same H' H2) : Gr p S H S' H2 :=
  ⟨g.st, fun a o n h => s _ _ (g.rs a o n h), g.fr, fun a h => by
    have := g.ex a h
    cases q : H' a with
    | none => exact absurd q this
    | some o =>
      rw [s _ _ q]
      intro z
      cases z⟩
end WW

set_option Elab.async false
set_option linter.all false
set_option maxRecDepth 100000
set_option maxHeartbeats 4000000
namespace WW
open PySem PySem.Spec PyProof.Rows L2
/-! ### super() in a def's body -/
/-- a body whose own code is known -/
structure PAt (X : Cx) (c : Code) (ss : List Stmt) (t : TS) : Prop where
  run : ∀ (pins : List (Addr × Obj)) (s : Shared) (σ : L2.St) (H : Hp) (D : Ends), Inv X pins σ H s → t D σ H → PySem.wpAt (model X.prog X.w) X.A c (execs ss X.env) (SP X pins D) X.xe s
section
variable {X : Cx} {c : Code} {st : Stmt} {ss : List Stmt} {t u : TS}
theorem pat_of (h : PSs X ss t) : PAt X c ss t := ⟨fun pins s σ H D I q => PySem.wpAt_of_wpAny (h.run pins s σ H D I q)⟩
theorem pat_cons (h : PS X st t) (r : PAt X c ss u) : PAt X c (st :: ss) (tSeq t u) := by
  refine ⟨fun pins s σ H D I q => ?_⟩
  refine PySem.ks_wpAt_execs_cons (PySem.wpAt_of_wpAny (thn (h.run pins s σ H { D with nx := u D } I q) fun f s1 q1 => ?_))
  cases f with
  | next =>
    obtain ⟨σ1, H1, I1, q2⟩ := q1
    exact r.run pins s1 σ1 H1 D I1 q2
  | ret v => exact q1
  | brk => exact q1
  | cont => exact q1
end
/-- what the text says where super() stands in a def at f, its code object at cda, the cell of its class D at cc -/
structure SupTxt (P : Program) (K : PySem.W.Frag) (mg : Str → Option Value) (f cda cc D : Addr) : Prop where
  fn : ∃ oc od fd osl ar, K.lookup f = some ⟨oc, od, .func fd, osl⟩ ∧ (fd.params.posonlyargs ++ fd.params.args).head? = some ar ∧ ar.arg = "self"
  code : ∃ ccl cdd vs ccs file tf, K.lookup cda = some ⟨ccl, cdd, .fields vs, ccs⟩ ∧ vs[2]? = some (.str file tf) ∧ ((P.main.file : Str) == file) = true
  cell : ∃ cl cld csl, K.lookup cc = some ⟨cl, cld, .cell (some (.ref D)), csl⟩
  dcl : ∃ cdD, PySem.W.clsIn K D = some cdD
  nosup : mg "super" = none
  top : (P.main.scope.names.lookup ("super" : Str)).isSome = false
  opq : PySem.W.nsIn K cStatics "thirdparty.any" = some none
/-- what the context of such a body has -/
structure SupX (X : Cx) (f cda cc : Addr) : Prop where
  func : X.env.func = some f
  code : X.env.code = .ref cda
  cell : X.env.cells.lookup ("__class__" : Str) = some cc
  ks : X.env.kindOf "super" = some .globalImplicit
  kc : X.env.kindOf "__class__" = some .free
  ka : X.env.kindOf "self" = some .local
  n0 : X.N[0]? = some ("self" : Str)
theorem boot_super : bootBuiltins "super" = some (.type "super") := by decide +kernel
section
variable {X : Cx} {pins : List (Addr × Obj)} {σ : L2.St} {H : Hp} {s : Shared} {f cda cc D C x : Addr}
theorem sup_node {body : List Stmt} {p0 p1 : Pos} {attr : Str} {whole : Sem Value} {ox : Obj} {odx : Option Obj} {Q : Value → Shared → Prop} {E : Value → Shared → Prop} (T : SupTxt X.prog X.K X.mg f cda cc D) (S : SupX X f cda cc) (I : Inv X pins σ H s) (h0 : σ[0]? = some (some (.ref x))) (J : PySem.W.InstAt s.heap x ox C odx)
    (hsub : PySem.W.mroIn X.K C (.ref D) = some true) (hat : (attr == ("__class__" : Str)) = false)
    (h : ∀ so s', Inv X ((so, PySem.W.ks_superObj D x C) :: pins) σ H s' → (∀ b o, s.heap.get? b = some o → s'.heap.get? b = some o) → Q (.ref so) s') :
    PySem.wpAt (model X.prog X.w) X.A (.func body X.env) (attributeBase (.Call (.Name "super" p0) [] [] p1) attr X.env whole) Q E s := by
  obtain ⟨oc, od, fd, osl, ar, hf, hp, har⟩ := T.fn
  obtain ⟨ccl, cdd, vs, ccs, file, tf, hco, hvs, hfile⟩ := T.code
  obtain ⟨cl, cld, csl, hcell⟩ := T.cell
  obtain ⟨cdD, hD⟩ := T.dcl
  have KX := I.kIn
  obtain ⟨oD, hD1, hD2⟩ : ∃ oD, s.heap.get? D = some oD ∧ oD.data = .cls cdD := by
    unfold PySem.W.clsIn at hD
    split at hD
    · rename_i c d cd' sl ho
      cases hD
      exact ⟨_, KX _ _ ho, rfl⟩
    · cases hD
  refine PySem.ks_wpAt_super_base (env := X.env) S.ks S.kc hat S.func (KX _ _ hf) rfl hp S.code (KX _ _ hco) rfl hvs hfile T.top ?_
  obtain ⟨mb, h1, h2⟩ := I.mod.blt
  refine PySem.W.ks_loadName_global I.ok.kind S.ks (Calls.loadGlobal_builtin (by rw [I.ok.glob]; exact I.mod.glob.keeps I.bk) T.nosup (by rw [I.ok.blt]; exact h1.keeps I.bk) ((h2 _ (by decide)).trans boot_super) ⟨rfl, ?_⟩)
  refine wpAny_loadName_free I.ok.kind S.kc S.cell ⟨_, KX _ _ hcell, rfl⟩ ?_
  rw [har]
  obtain ⟨m, hn, hl⟩ := I.loc
  obtain ⟨u, hu, lk⟩ := hl 0 "self" (.ref x) S.n0 h0 (.inl S.ka)
  obtain rfl : u = Value.ref x := hu
  have hm : m "self" = some (.ref x) := by
    rcases lk with ⟨_, e⟩ | ⟨e, _⟩
    · exact e
    · rw [S.ka] at e
      rcases e with e | e <;> cases e
  refine wpAny_loadName_local I.ok.kind S.ka hn hm ?_
  refine PySem.ks_wpAny_isType_cls hD1 hD2 ⟨rfl, ?_⟩
  obtain ⟨hh, g, d, tk, os⟩ := s
  refine PySem.ks_wpAny_call_super hD1 hD2 J.at_ J.cls (fun c e => ?_) (PySem.W.looks_mroIn KX hsub) (fun h' e k => ?_)
  · have := J.no
    unfold PySem.W.notCls at this
    rw [e] at this
    exact Bool.noConfusion this
  · exact h _ _ (ClX.pin_new (t' := tk) I k (Nat.le_refl _) e (fun v z => by cases z)) k
end
/-! ### super().__init__(..) of an exception -/
section
variable {X : Cx} {pins : List (Addr × Obj)} {σ : L2.St} {H : Hp} {s : Shared} {f cda cc C a u : Addr} {A : Around} {E : Value → Shared → Prop}
theorem call_mw {us : List Value} {Q : Value → Shared → Prop} (T : OexC X.K C) (I : Inv X pins σ H s) (hu : s.heap.get? u = some (PySem.W.kxs_mw "ValueError.__init__" a)) (e : H a = some (exo a C none)) (hl : us.length ≤ sizeLine) (h : ∀ s', Inv X pins σ H s' → Q .none s') :
    wpAny (model X.prog X.w) A (call (.ref u) us) Q E s := by
  obtain ⟨nm, q, N, bs, bm, sn, sub, ab, col, dd, k0, k1, k2, k3, k5, hC, hbm⟩ := T.cls
  obtain ⟨t1, ho⟩ := exo_at I.hok e
  have hCC := I.kIn _ _ hC
  obtain ⟨hp, g, d, tk, os⟩ := s
  have FB := F.excBase_ValueError
  refine wpAny_call (codeAny_of_tree ?_)
  show wpAny _ A.in1 (callAny (.ref u) ⟨us, []⟩) _ _ _
  simp only [callAny]
  refine wpAny_bind (wpAny_load hu ?_)
  simp only [PySem.W.kxs_mw, show (Value.type "method-wrapper" == Value.type "method" || Value.type "method-wrapper" == Value.type "builtin_function_or_method" || Value.type "method-wrapper" == Value.type "method-wrapper") = true by decide, if_true]
  refine PySem.W.KFB.if_so (by decide) ?_
  refine wpAny_bind (PySem.W.check_bound_init FB.toExcCallFacts hCC ho rfl ?_)
  refine wpAny_bind (wpAny_pure (wpAny_pure ?_))
  refine ⟨plainId_quiet FB.init.plain _, codeAny_builtin FB.initEntry ?_⟩
  refine PySem.W.exc_init_tree (cls := .ref C) (t0 := t1) (dv := none) (c2 := .none) (c3 := .none) (b4 := .bool false) ho hl (fun h' k hx _ => ?_)
  have J := I.write (t' := tk) (x := a) (e := a) (o := exo a C none) (by rw [e]; exact True.intro) (.inl rfl) k ⟨_, hx⟩ (exo_ok hx)
  have eu : upd H a (exo a C none) = H := by
    funext b
    by_cases hb : b = a
    · rw [hb, upd_same, e]
    · rw [upd_ne hb]
  rw [eu] at J
  exact h _ J
end
/-- the reading of «super().__init__(..)» in an exception's __init__; the rest u -/
def tSupX (C : Addr) (ta : TA) (u : TS) : TS := fun D σ H => ∃ a, σ[0]? = some (some (.ref a)) ∧ H a = some (exo a C none) ∧ ta σ H fun vs H1 => vs.length ≤ 1000 ∧ H1 a = some (exo a C none) ∧ u D σ H1
section
variable {X : Cx} {f cda cc C : Addr}
theorem pat_supX {body : List Stmt} {p0 p1 p2 pos pos' : Pos} {e : Expr} {es : List Expr} {rest : List Stmt} {ta : TA} {u : TS} {pl : Sem Bool} (T : SupTxt X.prog X.K X.mg f cda cc C) (S : SupX X f cda cc) (O : OexC X.K C) (hsub : PySem.W.mroIn X.K C (.ref C) = some true)
    (hm : PySem.W.ks_superIn X.K C C "__init__" = some (some (.builtin "ValueError.__init__"))) (hB : PySem.W.subIn X.K (.ref C) (.type "ValueError") = some true)
    (ha : PA X (e :: es) ta) (hr : PAt X (.func body X.env) rest u)
    (he : starEach (e :: es) X.env = (false, eval e X.env) :: starEach es X.env := by rfl) (hpl : (backTo pos (starEach es X.env)).any (·.1) = false := by rfl)
    (ht : eval (.Call (.Attribute (.Call (.Name "super" p0) [] [] p1) "__init__" p2) (e :: es) [] pos) X.env = (do
      let ov ← attributeBase (.Call (.Name "super" p0) [] [] p1) "__init__" X.env (eval (.Call (.Name "super" p0) [] [] p1) X.env)
      standAt p2.atName
      let (f, first) ← holding [ov] (getMethod ov "__init__" pl)
      callWith pos f first (backTo pos (starEach (e :: es) X.env)) []) := by rfl)
    (hs : swapsWith (.Call (.Attribute (.Call (.Name "super" p0) [] [] p1) "__init__" p2) (e :: es) [] pos) none pos'.line X.env = pure false := by rfl) :
    PAt X (.func body X.env) (.Expr (.Call (.Attribute (.Call (.Name "super" p0) [] [] p1) "__init__" p2) (e :: es) [] pos) pos' :: rest) (tSupX C ta u) := by
  refine ⟨fun pins s σ H D I q => ?_⟩
  obtain ⟨a, h0, ea, q⟩ := q
  obtain ⟨t1, ho⟩ := exo_at I.hok ea
  have J : PySem.W.InstAt s.heap a _ C none := ⟨ho, rfl, rfl, trivial⟩
  refine PySem.ks_wpAt_execs_cons (PySem.ks_wpAt_Expr_any ?_ I.quiet hs)
  refine PySem.ks_wpAt_MethodCall (pl := pl) ?_ ht
  refine sup_node T S I h0 J hsub (by decide) fun so s1 I1 k1 => ?_
  have KX := I1.kIn
  have J1 : PySem.W.InstAt s1.heap a _ C none := ⟨k1 _ _ ho, rfl, rfl, trivial⟩
  have hI : PySem.W.Looks (model X.prog X.w) s1.heap (isInstance (.ref a) (.type "ValueError")) true := J1.type.andThen (PySem.W.looks_subIn KX hB)
  cases hc : PySem.W.clsIn X.K C with
  | none =>
    unfold PySem.W.ks_superIn at hm
    rw [hc] at hm
    cases hm
  | some cd =>
    unfold PySem.W.ks_superIn at hm
    rw [hc] at hm
    have hso := ClX.pin_at I1
    have hne := PySem.W.ks_ne KX J1 hc
    have hop := PySem.W.looks_opaque (M := model X.prog X.w) (C := C) KX T.opq
    have hmro : PySem.W.Looks (model X.prog X.w) s1.heap (mroOf (.ref C)) cd.mro := fun A Q E s k q => wpAny_bind ((PySem.W.looks_clsIn KX hc) A _ E s k (wpAny_pure q))
    obtain ⟨hp, g, d, tk, os⟩ := s1
    refine PySem.W.kxs_getMethod PySem.W.kxs_ValueError hso hop hmro rfl KX hm hI hne (by decide) ?_
    have I2 : Inv X ((hp.objs.size, PySem.W.kxs_mw "ValueError.__init__" a) :: (so, PySem.W.ks_superObj C a C) :: pins) σ H ⟨hp.push (PySem.W.kxs_mw "ValueError.__init__" a), g, d, tk + 1, os⟩ :=
      ClX.pin_new (t' := tk + 1) I1 (fun b o z => Heap.get?_push_of_some _ z) (Nat.le_refl _) (Heap.get?_push_at rfl rfl) (fun v z => by cases z)
    show wpAny _ _ (callWith pos (.ref hp.objs.size) [] (backTo pos (starEach (e :: es) X.env)) []) _ _ _
    rw [he]
    refine PySem.W.kxs_callWith (i := "ValueError.__init__") (x := a) (by show (false || (backTo pos (starEach es X.env)).any (·.1)) = false; rw [hpl]; rfl) ?_
    refine PySem.Calls.evalArgs_plain ?_
    have hrun := ha.run pos _ _ σ H _ I2 q
    rw [he] at hrun
    refine thn hrun fun us s3 ⟨vs, H3, I3, r3, hlen, ea3, q3⟩ => ⟨ClX.pin_at I3, ?_⟩
    show wpAny _ _ (call (.ref hp.objs.size) us) _ _ _
    refine call_mw O I3 (ClX.pin_at I3) ea3 (by rw [← Paired.length r3, sizeLine_eq]; omega) fun s4 I4 => ?_
    exact hr.run pins s4 σ H3 D (ClX.unpin (ClX.unpin I4)) q3
end
/-! ### a def that says super() keeps its promise -/
theorem fn_sup {CX : CXT} {P : Program} {w : World} {K : PySem.W.Frag} {mg : Str → Option Value} {base : Heap} {k : Nat} {f cda cc D : Addr} {name qual : Str} {params : Arguments} {body : List Stmt} {scope : Scope} {doc pm ct oc : Value} {od : Option Addr}
    {osl : Array (Option Value)} {N ps : List Str} {sp : Sp} {cl cld csl} (lk : K.lookup f = some ⟨oc, od, .func (PySem.W.fnX name qual params body scope [("__class__", cc)] .none .none doc pm none (.ref cda) ct), osl⟩) (hcd : PySem.W.codeIn K (.ref cda) qual = true)
    (hcell : K.lookup cc = some ⟨cl, cld, .cell (some (.ref D)), csl⟩) (S : NdefX.NScope N ps ["__class__"] scope)
    (len : ∀ vs H Q E, sp vs H Q E → vs.length = ps.length)
    (hbody : ∀ (A : Around) (outer : List Env) (s : Shared) (H : Hp) (vs : List V) (Q : VK) (E : XK), Room k (A.deeper (NdefX.envF ⟨name, qual, params, body, scope, [("__class__", cc)], cda⟩ f s.heap.objs.size)) → sp vs H Q E →
      ∃ t, PAt (NdefX.ncx CX P w K mg base N ⟨name, qual, params, body, scope, [("__class__", cc)], cda⟩ f A outer s H E) (.func body (NdefX.envF ⟨name, qual, params, body, scope, [("__class__", cc)], cda⟩ f s.heap.objs.size)) body t ∧ t { nx := fun _ H' => Q .non H', rt := Q } (NdefX.startF N vs [none]) H) :
    FnOk P w K mg base CX (k + 1) f (PySem.W.fnX name qual params body scope [("__class__", cc)] .none .none doc pm none (.ref cda) ct) ps sp := by
  refine ⟨len, fun A outer s H args us vs Q E hr e0 hb r hsp => ?_⟩
  have hl := len _ _ _ _ hsp
  have KX : K.In s.heap := e0.mod.kin.keeps fun b o e => (e0.bs b o e).1
  have lim : s.heap.NoLimit := e0.mod.nolimit.keeps fun b o e => (e0.bs b o e).1
  have hcl : ∀ y c, ([("__class__", cc)] : List (Str × Addr)).lookup y = some c → y = "__class__" ∧ c = cc := fun y c e => by
    rcases PySem.mem_of_lookup e with _ | ⟨_, z⟩
    · exact ⟨rfl, rfl⟩
    · cases z
  have hc0 : ([("__class__", cc)] : List (Str × Addr)).lookup ("__class__" : Str) = some cc := by simp [List.lookup]
  have CA : NdefX.CellsAt [("__class__", cc)] ["__class__"] [none] s.heap H := by
    refine ⟨rfl, fun y c e => ?_, fun y z c e1 e2 => (hcl y c e1).1.trans (hcl z c e2).1.symm, fun i y e => ?_⟩
    · obtain ⟨_, rfl⟩ := hcl y c e
      exact ⟨(e0.bs _ _ (e0.mod.kin _ _ hcell)).2, _, _, KX _ _ hcell, rfl⟩
    · cases i with
      | zero =>
        have z : ("__class__" : Str) = y := Option.some.inj e
        subst z
        exact ⟨cc, hc0, fun v z => by cases z⟩
      | succ i => simp at e
  refine PySem.ks_codeAny_call_defAt (fd := PySem.W.fnX name qual params body scope [("__class__", cc)] .none .none doc pm none (.ref cda) ct) (body := body) hr.depth (KX _ _ lk) rfl lim (PySem.W.codeRec_of KX hcd) rfl hb S.nocell (fun ⟨n, _⟩ hy => S.par n (List.of_mem_zip hy).1) (fun h₁ hns kp => ?_) S.co S.gen S.kind
  obtain ⟨t, ht, hq⟩ := hbody A outer s H vs Q E (hr.deeper _) hsp
  have I : Inv (NdefX.ncx CX P w K mg base N ⟨name, qual, params, body, scope, [("__class__", cc)], cda⟩ f A outer s H E) [] (NdefX.startF N vs [none]) H { s with heap := h₁, toks := s.toks + (ps.zip us).length } := NdefX.inv_startN S hr.hd e0 hl r CA hns kp
  refine PySem.ks_wpAt_mono (ht.run [] _ (NdefX.startF N vs [none]) H _ I hq) (fun fl s' hs => ?_) fun e s' hs => hs
  have fin : ∀ {σ' : L2.St} {H' : Hp} {v : V} {u : Value}, Inv (NdefX.ncx CX P w K mg base N ⟨name, qual, params, body, scope, [("__class__", cc)], cda⟩ f A outer s H E) [] σ' H' s' → L2.RelV v u → Q v H' → CE outer P w H s Q u s' :=
    fun {σ' H' v u} J rv q => ⟨v, H', J.os, J.bare, J.base, J.hok, rv, q⟩
  cases fl with
  | ret u =>
    obtain ⟨v, σ', H', J, rv, q⟩ := hs
    exact fin J rv q
  | next =>
    obtain ⟨σ', H', J, q⟩ := hs
    exact fin (v := V.non) (u := Value.none) J rfl q
  | brk =>
    obtain ⟨_, _, _, q⟩ := hs
    exact False.elim q
  | cont =>
    obtain ⟨_, _, _, q⟩ := hs
    exact False.elim q
end WW

set_option Elab.async false
set_option linter.all false
set_option maxRecDepth 100000
set_option maxHeartbeats 4000000
namespace WW
open PySem PySem.Spec PyProof.Rows L2
/-! ### an exception class of the program: class X(..): def __init__(self, f): super().__init__(f); self.f = f -/
def spXI (C : Addr) (fld : Str) : Sp := fun vs H Q _ => ∃ (a : Addr) (y : V), vs = [.ref a, y] ∧ H a = some (exo a C none) ∧ ∀ dx, H dx = none → dx ≠ a → Q .non (upd (upd H dx (exd dx [(fld, y)])) a (exo a C (some dx)))
/-- the text of such an __init__ -/
def excBody (fld : Str) (st : Stmt) : Prop := ∃ p0 p1 p2 p3 p4 p5 p6 p7 p8 p9 : Pos, defBody st = [.Expr (.Call (.Attribute (.Call (.Name "super" p0) [] [] p1) "__init__" p2) [.Name fld p3] [] p4) p5, .Assign [.Attribute (.Name "self" p6) fld p7] (.Name fld p8) p9] ∧
  ∀ env : Env, ∃ pl : Sem Bool, eval (.Call (.Attribute (.Call (.Name "super" p0) [] [] p1) "__init__" p2) [.Name fld p3] [] p4) env = (do
      let ov ← attributeBase (.Call (.Name "super" p0) [] [] p1) "__init__" env (eval (.Call (.Name "super" p0) [] [] p1) env)
      standAt p2.atName
      let (f, first) ← holding [ov] (getMethod ov "__init__" pl)
      callWith p4 f first (backTo p4 (starEach [.Name fld p3] env)) [])
theorem ok_exc {P : Program} {w : World} {K : PySem.W.Frag} {mg : Str → Option Value} {base : Heap} {fI cda cc C : Addr} {qual fld : Str} {st : Stmt} {doc pm ct oc : Value} {od : Option Addr} {osl : Array (Option Value)}
    (lk : K.lookup fI = some ⟨oc, od, .func (PySem.W.fnX "__init__" qual (defArgs st) (defBody st) (defScope st) [("__class__", cc)] .none .none doc pm none (.ref cda) ct), osl⟩) (hcd : PySem.W.codeIn K (.ref cda) qual = true)
    (T : SupTxt P K mg fI cda cc C) (O : OexC K C) (hsub : PySem.W.mroIn K C (.ref C) = some true) (hm : PySem.W.ks_superIn K C C "__init__" = some (some (.builtin "ValueError.__init__"))) (hB : PySem.W.subIn K (.ref C) (.type "ValueError") = some true)
    (hno : PySem.W.findIn K (.ref C) fld = some none) (S : NdefX.NScope ["self", fld, "__class__"] ["self", fld] ["__class__"] (defScope st)) (hks : (defScope st).names.lookup ("super" : Str) = some .globalImplicit) (hb : excBody fld st)
    (hd1 : (fld == ("__debug__" : Str)) = false) (hd2 : (fld == ("__classdict__" : Str)) = false) :
    FnOk P w K mg base CX0 1 fI (PySem.W.fnX "__init__" qual (defArgs st) (defBody st) (defScope st) [("__class__", cc)] .none .none doc pm none (.ref cda) ct) ["self", fld] (spXI C fld) := by
  obtain ⟨cl, cld, csl, hcell⟩ := T.cell
  refine fn_sup (N := ["self", fld, "__class__"]) lk hcd hcell S (fun vs H Q E h => ?_) (fun A outer s H vs Q E hr h => ?_)
  · obtain ⟨a, y, rfl, _⟩ := h
    rfl
  · obtain ⟨a, y, rfl, ha, q⟩ := h
    obtain ⟨p0, p1, p2, p3, p4, p5, p6, p7, p8, p9, eb, hte⟩ := hb
    have hX : SupX (NdefX.ncx CX0 P w K mg base ["self", fld, "__class__"] ⟨"__init__", qual, defArgs st, defBody st, defScope st, [("__class__", cc)], cda⟩ fI A outer s H E) fI cda cc :=
      ⟨rfl, rfl, by show ([("__class__", cc)] : List (Str × Addr)).lookup ("__class__" : Str) = some cc; simp [List.lookup], hks, S.frk _ (by simp), S.par _ (by simp), rfl⟩
    have vf : Vis (defScope st) fld := .inl (S.par _ (by simp))
    have vs' : Vis (defScope st) "self" := .inl (S.par _ (by simp))
    have main : ∃ t, PAt (NdefX.ncx CX0 P w K mg base ["self", fld, "__class__"] ⟨"__init__", qual, defArgs st, defBody st, defScope st, [("__class__", cc)], cda⟩ fI A outer s H E) (.func (defBody st) (NdefX.envF ⟨"__init__", qual, defArgs st, defBody st, defScope st, [("__class__", cc)], cda⟩ fI s.heap.objs.size))
        [.Expr (.Call (.Attribute (.Call (.Name "super" p0) [] [] p1) "__init__" p2) [.Name fld p3] [] p4) p5, .Assign [.Attribute (.Name "self" p6) fld p7] (.Name fld p8) p9] t ∧ t { nx := fun _ H' => Q .non H', rt := Q } (NdefX.startF ["self", fld, "__class__"] [.ref a, y] [none]) H := by
      obtain ⟨pl, ht⟩ := hte (NdefX.ncx CX0 P w K mg base ["self", fld, "__class__"] ⟨"__init__", qual, defArgs st, defBody st, defScope st, [("__class__", cc)], cda⟩ fI A outer s H E).env
      refine ⟨_, pat_supX (pl := pl) (ht := ht) T hX O hsub hm hB (pa_cons (pv 1 (hv := vf) (hd := hd1) (hcd := hd2)) pa_nil) (pat_of (pss_one (ps_ost (pv 0 (hv := vs')) (pv 1 (hv := vf) (hd := hd1) (hcd := hd2))))), ?_⟩
      refine ⟨a, rfl, ha, _, rfl, by simp, ha, _, rfl, _, rfl, a, C, rfl, O, hno, .inl ⟨ha, fun dx n ne => q dx n ne⟩⟩
    rw [← eb] at main
    exact main
/-- C(y) as it is raised: the wish behind it -/
theorem mkx {C : Addr} {fld : Str} {y : V} {H1 : Hp} {Q : XK} (q : ∀ d, H1 d = none → Q (.ref C) (some d) (upd H1 d (.xd [(fld, y)]))) : ([y] : List V).length ≤ 1000 ∧ ∀ a, H1 a = none → spXI C fld (.ref a :: ([y] ++ [])) (upd H1 a (exo a C none))
    (fun v H2 => v = .non ∧ ∃ (d : Addr) (fs : List (Str × V)), H2 a = some (exo a C (some d)) ∧ H2 d = some (exd d fs) ∧ H1 d = none ∧ Q (.ref C) (some d) (upd (del H2 a) d (.xd fs))) (fun _ _ _ => False) := by
  refine ⟨by simp, fun a na => ⟨a, y, rfl, upd_same, fun dx n ne => ⟨rfl, dx, _, upd_same, (upd_ne ne).trans upd_same, ?_, ?_⟩⟩⟩
  · rw [upd_ne ne] at n
    exact n
  · rw [upd_ne ne] at n
    have e : upd (del (upd (upd (upd H1 a (exo a C none)) dx (exd dx [(fld, y)])) a (exo a C (some dx))) a) dx (.xd [(fld, y)]) = upd H1 dx (.xd [(fld, y)]) := by
      funext b
      by_cases hb : b = dx
      · rw [hb, upd_same, upd_same]
      · rw [upd_ne hb, upd_ne hb]
        by_cases ha : b = a
        · rw [ha, del_same, na]
        · rw [del_ne ha, upd_ne ha, upd_ne hb, upd_ne ha]
    rw [e]
    exact q dx n
/-! ### C(..) where __init__ may raise -/
def tMakeS (C : Addr) (sp : Sp) (E : L2.St → XK) (t : TA) : TE := fun σ H Q => t σ H fun vs H1 => ∀ x dx, H1 x = none → H1 dx = none → dx ≠ x →
  sp (.ref x :: vs) (upd (upd H1 dx (.own x)) x (.ins C dx [])) (fun v H2 => v = .non ∧ Q (.ref x) H2) (E σ)
section
variable {X : Cx} {CX : CXT} {k : Nat} {f C : Addr} {fd : FuncData} {ps : List Str} {sp : Sp} {E : L2.St → XK} {x : Str} {p pos : Pos} {e : Expr} {es : List Expr} {t : TA}
theorem pe_makeS (M : Mk X.K C f) (F : FnOk X.prog X.w X.K X.mg X.base CX k f fd ps sp) (hr : Room (k + 1) X.A) (hg : Gl X x) (hm : X.mg x = some (.ref C)) (hb : Binds X.K fd ps []) (hx : ∀ σ, PassesAt CX X σ (E σ))
    (ha : PA X (e :: es) t) (hdb : (x == ("__debug__" : Str)) = false := by decide) (he : starEach (e :: es) X.env = (false, eval e X.env) :: starEach es X.env := by rfl) (hpl : (backTo pos (starEach es X.env)).any (·.1) = false := by rfl) :
    PE X (.Call (.Name x p) (e :: es) [] pos) (tMakeS C sp E t) := by
  refine ⟨fun pins s σ H Q I h => ?_⟩
  refine wpAny_Call_Name_kw (ld_glob I hg hm ?_ hdb)
  refine PySem.W.callWith_K (h₀ := X.base) I.ok.mod.kin M.kp (thn (ha.run pos pins s σ H _ I h) fun us s1 ⟨vs, H1, I1, r, q⟩ => ⟨I1.kIn, ?_⟩) he hpl
  show wpAny _ _ (call (.ref C) us) _ _ _
  have hq := q (s1.heap.objs.size + 1) s1.heap.objs.size (I1.hok.fresh (Nat.le_succ _)) (I1.hok.fresh (Nat.le_refl _)) (Nat.ne_of_lt (Nat.lt_succ_self _))
  have I2 := Inv.made (C := C) I1
  have r2 : Vals (V.ref (s1.heap.objs.size + 1) :: vs) (Value.ref (s1.heap.objs.size + 1) :: us) := .cons rfl r
  have hl : (Value.ref (s1.heap.objs.size + 1) :: us).length = ps.length := by
    have e := r2.length
    rw [F.len _ _ _ _ hq] at e
    exact e.symm
  have hbb := hb _ (Value.ref (s1.heap.objs.size + 1) :: us) I2.kIn (by rw [List.append_nil]; exact hl)
  rw [List.append_nil] at hbb
  refine wpAny_call (make_map (f := f) I1.kIn M.makes M.init (beq_iff_eq.mp M.fn) (codeAny_mono (F.run _ X.stack _ _ ⟨Value.ref (s1.heap.objs.size + 1) :: us, []⟩ (Value.ref (s1.heap.objs.size + 1) :: us) _ _ (E σ) (hr.make C us [])
    (I2.env0.make C us []) hbb r2 hq) fun r s' hq' => ?_))
  cases r with
  | error e => exact hx σ pins _ _ e s' I2 hq'
  | ok fl =>
    cases fl with
    | ret u =>
      obtain ⟨v, H', I3, rv, ev, q3⟩ := I2.after hq'
      subst ev
      exact ⟨rv, ⟨V.ref (s1.heap.objs.size + 1), H', I3, rfl, q3⟩⟩
    | next => exact False.elim hq'
    | brk => exact False.elim hq'
    | cont => exact False.elim hq'
end
/-! ### isinstance(e, c), e the exception that the suite holds, its fields in a dict -/
section
variable {X : Cx}
/-- the reading of isinstance(e, c): e's class is the one at D -/
def rIsED (K : PySem.W.Frag) (D a : Addr) (cls : Value) (d : Option Addr) : List V → Hp → VK → Prop := fun xs H Q => cls = .ref D ∧ ∃ (dd : Addr) (fs : List (Str × V)), d = some dd ∧ H dd = some (.xd fs) ∧ rIsE K D a xs H Q
theorem call_isED {a D : Addr} {cls : Value} {d : Option Addr} {oe : Obj} {pn : List (Addr × Obj)} (C : ExcC X.K D) (hz : Zc cls d oe) (hf : ∃ vs, oe.data = .fields vs) :
    CallR (X.suite a ((a, oe) :: pn)) (.builtin "isinstance") (rIsED X.K D a cls d) := by
  intro pins s σ H xs us Q I r h
  obtain ⟨rfl, dd, fs, rfl, hdd, c, cv, b, rfl, hcv, e, q⟩ := h
  cases r with
  | cons rx rr =>
    cases rr with
    | cons rt rr =>
      cases rr
      cases rx
      have ec := hcv _ rt
      subst ec
      obtain ⟨hget, _⟩ := I.pin (a, oe) (List.mem_append.mpr (.inl List.mem_cons_self))
      obtain ⟨vs, hv⟩ := hf
      have hx : ObjOk X.prog X.w H s.heap dd (.xd fs) := I.hok dd _ hdd
      obtain ⟨mA, hns, _⟩ := hx
      obtain ⟨od, ho, _⟩ := lookIn_ns hns
      have J : PySem.W.InstAt s.heap a oe D (some od) := by
        obtain ⟨oc, odi, oda, osl⟩ := oe
        obtain ⟨h1, h2⟩ := hz
        dsimp only at h1 h2 hv
        subst h1 h2 hv
        exact ⟨hget, rfl, rfl, ho⟩
      have hcl : (PySem.W.clsIn X.K D).isSome = true := by
        obtain ⟨cd, hc, _⟩ := PySem.W.any_some C.hd
        rw [hc]
        rfl
      exact PySem.W.kia_one (PySem.W.kitx_exc hcl C.hg C.hk C.hs C.ha C.hn C.ht C.hm) I.kIn J e (fun z => nomatch z) fun tk => ⟨.bl b, H, I.kept (t' := tk) fun _ _ z => z, rfl, q⟩
end
/-! ### several clauses «except x as n» -/
def dAs (i : Nat) (D : Ends) : Ends := { nx := fun σ' H' => D.nx (σ'.set i none) H', rt := D.rt, bk := fun σ' H' => D.bk (σ'.set i none) H', ct := fun σ' H' => D.ct (σ'.set i none) H' }
def wManyA (K : PySem.W.Frag) (Wout : WX) (D : Ends) : List (Value × Nat × (Addr → Value → Option Addr → TS)) → WX
  | [] => Wout
  | (c, i, ts) :: r => fun cls d σ H => ∃ b, PySem.W.exmOne K cls c = some b ∧ (b = true → ∀ a, H a = none → ts a cls d (dAs i D) (σ.set i (some (.ref a))) H) ∧ (b = false → wManyA K Wout D r cls d σ H)
inductive HdsA (X : Cx) : List ExceptHandler → List (Value × Nat × (Addr → Value → Option Addr → TS)) → Prop
  | nil : HdsA X [] []
  | cons {x n : Str} {c : Value} {i : Nat} {ts : Addr → Value → Option Addr → TS} {b₀ : Stmt} {suite : List Stmt} {np pos' : Pos} {hds : List ExceptHandler} {l : List (Value × Nat × (Addr → Value → Option Addr → TS))} (hi : X.N[i]? = some n) (hln : X.env.kindOf n = some .local) (hc : Names X x c)
      (hsu : ∀ (a : Addr) (oe : Obj) (cls : Value) (d : Option Addr) (pn : List (Addr × Obj)), Zc cls d oe → (∃ vs, oe.data = .fields vs) → PSs (X.suite a ((a, oe) :: pn)) (b₀ :: suite) (ts a cls d)) (r : HdsA X hds l) :
      HdsA X (.ExceptHandler (some (.Name x np)) (some n) (b₀ :: suite) pos' :: hds) ((c, i, ts) :: l)
section
variable {X : Cx} {body : List Stmt} {h₀ : ExceptHandler} {hds : List ExceptHandler} {l : List (Value × Nat × (Addr → Value → Option Addr → TS))} {pos : Pos} {tb : WX → TS} {Wout : WX}
theorem ps_try_manyA (hs : X.stack = X.env :: X.outer) (hf : X.env.frame = some X.env.locals) (hN : X.N.Nodup) (tk : Takes X Wout)
    (hb : ∀ (W : WX) (pn : List (Addr × Obj)) (xe : Value → Shared → Prop), Takes (X.tr pn xe) W → PassesOwn (model X.prog X.w) X.A X.env xe → PSs (X.tr pn xe) body (tb W))
    (hh : HdsA X (h₀ :: hds) l) : PS X (.Try body (h₀ :: hds) [] [] pos) (fun D σ H => tb (wManyA X.K Wout D l) D σ H) := by
  refine ⟨fun pins s σ H D I h => ?_⟩
  have ok := I.ok
  have hfr : X.A.frames = some (X.env :: X.outer) := by rw [ok.frames, hs]
  refine wpAny_Try_except ?_
  refine wpAny_mono ((hb (wManyA X.K Wout D l) (X.pn ++ pins) (fun e s₁ => wpAny (model X.prog X.w) X.A (noteFrame e X.env) (fun _ s₂ => wpAny (model X.prog X.w) X.A (setFlight e none) (fun _ s₃ =>
    wpAny (model X.prog X.w) X.A (handleBy e X.env (h₀ :: hds)) (SP X pins D) X.xe s₃) X.xe s₂) X.xe s₁) (fun u s' xx => ?_) PassesOwn.looking).run [] s σ H D (I.toTry _) h) (fun f s1 hsp => ?_) (fun e s1 he => he)
  · -- the catch
    obtain ⟨a, B, sI, pins', σ', H', cls, d, rfl, J', nb, up, sky, na, os, ag, w⟩ := xx
    have J : Inv X pins σ' H' sI := J'.ofTry ok
    have sky' : Sky B (X.env :: X.outer) a (Zc cls d) X.env.locals s'.heap := by rw [← hs]; exact sky
    show wpAny (model X.prog X.w) X.A (noteFrame (.ref a) X.env) _ _ _
    refine Sky.land Zc.steady hfr hf sky' fun h3 fl3 up3 => ?_
    have J3 : Inv X pins σ' H' { s' with heap := h3 } := J.landed nb fl3.1 (up.trans up3) os ag
    obtain ⟨oe3, vs3, he3, hz3, hd3⟩ := fl3.there
    have notFr : ∀ {h : Heap} {o : Obj} {vs : Array Value}, h.FunFrames B (X.env :: X.outer) → h.get? a = some o → o.data = .fields vs → a ∉ frs (X.env :: X.outer) := fun {h o vs} ff e dd hm => by
      obtain ⟨_, o', e', hnf⟩ := ff.mem hm
      rw [e] at e'; cases e'
      exact hnf _ dd
    have nfr := notFr fl3.2.2.1 he3 hd3
    have nL : a ≠ X.env.locals := fun z => nfr (List.mem_filterMap.mpr ⟨X.env, List.mem_cons_self, by rw [hf, z]⟩)
    have nF : a ∉ X.fs := fun hm => by
      obtain ⟨e, he, q⟩ := List.mem_filterMap.mp hm
      exact nfr (List.mem_filterMap.mpr ⟨e, List.mem_cons_of_mem _ he, q⟩)
    have S3 := J3.suite he3 hd3 na nL nF
    have go : ∀ {hds' : List ExceptHandler} {l' : List (Value × Nat × (Addr → Value → Option Addr → TS))}, HdsA X hds' l' → wManyA X.K Wout D l' cls d σ' H' →
        wpAny (model X.prog X.w) X.A (handleBy (.ref a) X.env hds') (SP X pins D) X.xe { s' with heap := h3 } := by
      intro hds' l' hk
      induction hk with
      | nil =>
        intro w
        refine wpAny_handleBy_nil ?_
        obtain ⟨k1, k2, k3, oe, vs, T, oT, ts', he, hz, hd, h1, hr⟩ := id fl3
        unfold PySem.passOn
        refine wpAny_bind (wpAny_field he hd h1 ?_)
        rw [if_neg (show ¬ ((Value.ref T == Value.none) = true) from by simp)]
        have fin : wpAny (model X.prog X.w) X.A (setFlight (.ref a) X.env.frame) (fun _ s4 => wpAny (model X.prog X.w) X.A (throw (.ref a) : Sem Flow) (SP X pins D) X.xe s4) X.xe { s' with heap := h3 } := by
          rw [hf]
          refine HandSPX.setFlight_upZ fl3 fun h4 hh4 up4 => wpAny_throw (tk _ _ ?_)
          exact ⟨a, B, sI, pins, σ', H', cls, d, rfl, J, nb, (up.trans up3).trans up4, .inr (.inr (by rw [hs]; exact hh4)), na, os, ag, w⟩
        first
          | exact wpAny_bind (wpAny_pure (wpAny_bind fin))
          | exact wpAny_bind fin
      | @cons x n c i ts b₀ suite np pos' hds2 l2 hi hln hc hsu r ih =>
        intro w
        obtain ⟨b, hb1, hyes, hno⟩ := w
        have hloc : Loc X.env.scope n := .inl hln
        refine wpAny_handleBy_cons (codeAny_handlers_test ?_) (by intro q; cases q)
        have LT : PySem.W.Looks (model X.prog X.w) h3 (typeOf (.ref a)) cls := fun A Q E s k q => wpAny_typeOf_ref (k _ _ he3) (by rw [hz3.1]; exact q)
        have LM := PySem.W.exm_one (M := model X.prog X.w) (J3.kIn) LT hb1
        have test : ∀ {Q : Value → Shared → Prop} {E : Value → Shared → Prop}, Q c { s' with heap := h3 } → wpAny (model X.prog X.w) (X.A.mark (some (.ref a))) (eval (.Name x np) X.env) Q E { s' with heap := h3 } := fun {Q E} q => by
          obtain ⟨hg, hdbg, hm | ⟨hm, hv, hnn⟩⟩ := hc
          · exact ld_glob (X := X.suite a ((a, oe3) :: (X.pn ++ pins))) S3 hg hm q hdbg
          · exact ld_blt (X := X.suite a ((a, oe3) :: (X.pn ++ pins))) S3 hg hm hv q hnn hdbg
        refine test (LM.here ?_)
        cases b with
        | true =>
          refine codeAny_handlers_suite_as ?_
          refine HandSPX.lands_againZ fl3 fun h4 fl4 up4 => ?_
          have J4 : Inv X pins σ' H' { s' with heap := h4 } := J.landed nb fl4.1 ((up.trans up3).trans up4) os ag
          obtain ⟨oe4, vs4, he4, hz4, hd4⟩ := fl4.there
          have S4 := J4.suite he4 hd4 na nL nF
          refine store_ok (X := X.suite a ((a, oe4) :: (X.pn ++ pins))) (v := .ref a) S4 hN hi hloc rfl (fun s5 S5 => ?_) (.inr hln)
          refine wpAny_mono ((hsu a oe4 cls d (X.pn ++ pins) hz4 ⟨_, hd4⟩).run [] s5 _ H' _ S5 (hyes rfl a na)) (fun f s6 hsp => ?_) (fun _ _ z => False.elim z)
          have end_ : ∀ {σ6 : L2.St} {H6 : Hp} {Q : Shared → Prop}, Inv (X.suite a ((a, oe4) :: (X.pn ++ pins))) [] σ6 H6 s6 → (∀ s7, Inv X pins (σ6.set i none) H6 s7 → Q s7) →
              wpAny (model X.prog X.w) X.A (do bindName X.env n .none; unbindBehindTheSuite X.env n pos') (fun _ s7 => Q s7) X.xe s6 := fun {σ6 H6 Q} S6 hq => gone_ok (S6.unsuite ok) hN hi hln hq
          cases f with
          | next =>
            obtain ⟨σ6, H6, S6, q6⟩ := hsp
            exact end_ S6 fun s7 J7 => ⟨_, _, J7, q6⟩
          | brk =>
            obtain ⟨σ6, H6, S6, q6⟩ := hsp
            exact end_ S6 fun s7 J7 => ⟨_, _, J7, q6⟩
          | cont =>
            obtain ⟨σ6, H6, S6, q6⟩ := hsp
            exact end_ S6 fun s7 J7 => ⟨_, _, J7, q6⟩
          | ret u =>
            obtain ⟨v6, σ6, H6, S6, r6, q6⟩ := hsp
            exact end_ S6 fun s7 J7 => ⟨_, _, _, J7, r6, q6⟩
        | false =>
          show wpAny _ X.A (handleBy (.ref a) X.env hds2) _ _ _
          exact ih (hno rfl)
    exact go hh w
  · cases f with
    | next =>
      obtain ⟨σ', H', J', q⟩ := hsp
      exact wpAny_execs_nil ⟨σ', H', J'.ofTry ok, q⟩
    | brk =>
      obtain ⟨σ', H', J', q⟩ := hsp
      exact ⟨σ', H', J'.ofTry ok, q⟩
    | cont =>
      obtain ⟨σ', H', J', q⟩ := hsp
      exact ⟨σ', H', J'.ofTry ok, q⟩
    | ret u =>
      obtain ⟨v, σ', H', J', r, q⟩ := hsp
      exact ⟨v, σ', H', J'.ofTry ok, r, q⟩
end
end WW

set_option Elab.async false
set_option linter.all false
set_option maxRecDepth 100000
set_option maxHeartbeats 4000000
namespace WW
open PySem PySem.Spec PyProof.Rows L2
/-- an exception class of the program, its one field fld -/
structure ExcT (P : Program) (w : World) (K : PySem.W.Frag) (mg : Str → Option Value) (x : Str) (C fI : Addr) (fld : Str) (fdI : FuncData) : Prop where
  o : OexC K C
  gl : mg x = some (.ref C)
  iC : PySem.W.findIn K (.ref C) "__init__" = some (some (.ref fI))
  tI : PySem.W.typeIn K (.ref fI) = some (.type "function")
  bi : Binds K fdI ["self", fld] []
  ok : ∀ base, FnOk P w K mg base CX0 1 fI fdI ["self", fld] (spXI C fld)
section
variable {X : Cx} {x fld : Str} {C fI : Addr} {fdI : FuncData} {e : Expr} {ta : TA} {p pos pos2 : Pos} {W : WX}
theorem ps_raiseX (T : ExcT X.prog X.w X.K X.mg x C fI fld fdI) (hr : Room 2 X.A) (hg : Gl X x) (hc : X.calm = true) (tk : Takes X W) (ha : PA X [e] ta) (hdb : (x == ("__debug__" : Str)) = false := by decide)
    (he : starEach [e] X.env = (false, eval e X.env) :: starEach [] X.env := by rfl) (hpl : (backTo pos (starEach [] X.env)).any (·.1) = false := by rfl) :
    PS X (.Raise (some (.Call (.Name x p) [e] [] pos)) none pos2) (fun _ σ H => tMkO C (spXI C fld) [] ta σ H fun cls d H' => W cls d σ H') :=
  ps_raise hc tk (pmk_oex T.o T.iC T.tI (T.ok X.base) hr T.bi .nil pass0 hg T.gl ha hdb he hpl)
end
section
variable {X : Cx} {k : Nat} {x : Str} {st : Stmt} {ps : List Str} {f : Addr} {fd : FuncData} {sp : Sp} {e : Expr} {es : List Expr} {p pos : Pos} {t : TA} {W : WX}
theorem pe_dfS (D : Df X.K X.mg x st ps f fd) (F : FnOk X.prog X.w X.K X.mg X.base (L2.CX X.prog X.w) k f fd ps sp) (hr : Room k X.A) (tk : Takes X W) (ha : PA X (e :: es) t) (hg : Gl X x := by rfl)
    (hdb : (x == ("__debug__" : Str)) = false := by decide) (he : starEach (e :: es) X.env = (false, eval e X.env) :: starEach es X.env := by rfl) (hpl : (backTo pos (starEach es X.env)).any (·.1) = false := by rfl) :
    PE X (.Call (.Name x p) (e :: es) [] pos) (tCallS sp (WE W) t) :=
  pe_callS F hr hg D.gl D.fn.kp D.bi (fun σ => passAt tk σ) ha hdb he hpl
end
end WW

set_option Elab.async false
set_option linter.all false
set_option maxRecDepth 100000
set_option maxHeartbeats 4000000
namespace WW
open PySem PySem.Spec PyProof.Rows L2
def topS (i : Nat) : Stmt := PySem.Challenge.pw_watchedworks_k00_hands_told_and_refused.main.body.getD i (.Pass ⟨0, 0, 0, 0⟩)
structure Bl (mg : Str → Option Value) : Prop where
  abs : mg "abs" = none
  int : mg "int" = none
  len : mg "len" = none
  max : mg "max" = none
  range : mg "range" = none
  tuple : mg "tuple" = none
  list : mg "list" = none
  str : mg "str" = none
  bool : mg "bool" = none
  isinstance : mg "isinstance" = none
  all : mg "all" = none
  sorted : mg "sorted" = none
  enumerate : mg "enumerate" = none

/-! ### the pool of a law's draws -/
structure Pool (S H : Hp) (p : Addr) : Prop where
  ss : Same S H
  np : S p = none
  at_ : ∃ (g s : Addr) (cur cnt : Int) (gs ns : List Int), H p = some (.lst [.ref g, .ref s, .int cur, .int cnt]) ∧ S g = some (.lst (gs.map V.int)) ∧ S s = some (.lst (ns.map V.int)) ∧ gs.length ≤ 63 ∧ ns.length ≤ 63
theorem Pool.has {S H : Hp} {p : Addr} (P : Pool S H p) : H p ≠ none := by
  obtain ⟨_, _, _, _, _, _, _, _, h, _⟩ := P
  rw [h]
  intro z
  cases z
/-- a new stable object -/
theorem Pool.new {S H : Hp} {p a : Addr} {o : HO} (P : Pool S H p) (n : H a = none) : Pool (upd S a o) (upd H a o) p := by
  have npa : p ≠ a := fun q => P.has (by rw [q]; exact n)
  have ns : S a = none := P.ss.free n
  obtain ⟨ss, np, g, sm, cur, cnt, gs, ns', hp, hg, hs, lg, ls⟩ := P
  exact ⟨same_new ss, by rw [upd_ne npa]; exact np, g, sm, cur, cnt, gs, ns', by rw [upd_ne npa]; exact hp, by rw [upd_ne (ne_of_none hg ns)]; exact hg, by rw [upd_ne (ne_of_none hs ns)]; exact hs, lg, ls⟩
/-- an object that is not stable is written -/
theorem Pool.put {S H : Hp} {p a : Addr} {o : HO} (P : Pool S H p) (n : S a = none) (npa : a ≠ p) : Pool S (upd H a o) p := by
  obtain ⟨ss, np, g, sm, cur, cnt, gs, ns', hp, hg, hs, lg, ls⟩ := P
  exact ⟨same_put ss n, np, g, sm, cur, cnt, gs, ns', by rw [upd_ne npa.symm]; exact hp, hg, hs, lg, ls⟩
theorem Pool.fix {S H : Hp} {p a : Addr} {o : HO} (P : Pool S H p) (h : H a = some o) (n : S a = none) (npa : a ≠ p) : Pool (upd S a o) H p := by
  obtain ⟨ss, np, g, sm, cur, cnt, gs, ns', hp, hg, hs, lg, ls⟩ := P
  exact ⟨same_fix ss h, by rw [upd_ne npa.symm]; exact np, g, sm, cur, cnt, gs, ns', hp, by rw [upd_ne (ne_of_none hg n)]; exact hg, by rw [upd_ne (ne_of_none hs n)]; exact hs, lg, ls⟩
theorem Pool.same {S H H2 : Hp} {p : Addr} (P : Pool S H p) (s : Same H H2) : Pool S H2 p := by
  obtain ⟨ss, np, g, sm, cur, cnt, gs, ns', hp, hg, hs, lg, ls⟩ := P
  exact ⟨ss.trans s, np, g, sm, cur, cnt, gs, ns', s _ _ hp, hg, hs, lg, ls⟩
section
variable {P : Program} {w : World} {K : PySem.W.Frag} {mg : Str → Option Value} {base : Heap} {f : Addr} {fd : FuncData}
abbrev sLdraw : Stmt := topS 21
abbrev nLdraw : List Str := ["_law_pool_here", "_law_many", "_law_great", "_law_digit", "_law_seed", "_law_number"]
theorem scLdraw : FnScope nLdraw ["_law_pool_here", "_law_many"] (defScope sLdraw) := ⟨rfl, rfl, rfl, by decide +kernel, rfl, by decide +kernel, by decide +kernel⟩
def spDraw : Sp := fun vs H Q _ => ∃ (p : Addr) (S : Hp) (n : Int), vs = [.ref p, .int n] ∧ 0 < n ∧ n < 1000000 ∧ Pool S H p ∧
  ∀ (d : Int) (S' H' : Hp), Pool S' H' p → Gr p S H S' H' → 0 ≤ d → d < n → Q (.int d) H'
theorem ok_draw (D : Df K mg "_law_draw" sLdraw ["_law_pool_here", "_law_many"] f fd) (T : Bl mg) : FnOk P w K mg base CX0 1 f fd ["_law_pool_here", "_law_many"] spDraw := by
  refine D.fn.ok scLdraw (fun vs H Q E h => ?_) (fun cdv A outer s H vs Q E hr h => ?_)
  · obtain ⟨p, S, n, rfl, _⟩ := h
    rfl
  · obtain ⟨p, S, n, rfl, n0, n1, ⟨ss, np, g, sm, cur, cnt, gs, ns, hp, hg, hs, lg, ls⟩, q⟩ := h
    refine ⟨_, (C8.pss_cut (ps_if (PW.pt (pw_and (pt_cmpR op_eq (pe_ix ix_list (pv 0) pe_int (fun _ _ => rfl)) pe_int (nomark _)) (pw_and1 (pt_cmpR op_gt (pe_callB call_len (by rfl) T.len (by decide +kernel) (pa_cons (pe_ix ix_list (pv 0) pe_int (fun _ _ => rfl)) pa_nil)) pe_int (nomark _))))) (pss_cons (ps_set (i := 2) scLdraw.nd rfl (Or.inl rfl) (pe_ix ix_list (pv 0) pe_int (fun _ _ => rfl)))
      (pss_one (ps_asg (pe_tup (pa_cons (pe_ix ix_list (pv 2) pe_int (fun _ _ => rfl)) (pa_cons (pe_slice sl_list (pv 2) (po_some pe_int) po_none) pa_nil))) (pg_tup rfl (pgs_cons (pg_sub (pv 0) pe_int set_list) (pgs_cons (pg_sub (pv 0) pe_int set_list) pgs_nil)))))) pss_nil)
      (pss_cons (ps_if (pt_cmpR op_gt (pe_ix ix_list (pv 0) pe_int (fun _ _ => rfl)) pe_int (nomark _)) (pss_cons (ps_asg (pe_tup (pa_cons (pe_op op_mod (pe_callTy call_int1 (by rfl) T.int (by decide +kernel) (pa_cons (pe_ix ix_list (pv 0) pe_int (fun _ _ => rfl)) pa_nil)) (pv 1)) (pa_cons (pe_op op_fdiv (pe_ix ix_list (pv 0) pe_int (fun _ _ => rfl)) (pv 1)) pa_nil))) (pg_tup rfl (pgs_cons (pg_name (i := 3) scLdraw.nd rfl (Or.inl rfl)) (pgs_cons (pg_sub (pv 0) pe_int set_list) pgs_nil))))
      (pss_one (ps_ret (pv 3)))) pss_nil)
      (pss_cons (ps_asg (pe_op op_add (pe_ix ix_list (pv 0) pe_int (fun _ _ => rfl)) pe_int) (pg_sub (pv 0) pe_int set_list))
      (pss_cons (ps_set (i := 4) scLdraw.nd rfl (Or.inl rfl) (pe_ix ix_list (pe_op op_cat (pe_ix ix_list (pv 0) pe_int (fun _ _ => rfl)) (pe_lst (pa_cons pe_int pa_nil))) (pe_op op_mod (pe_callTy call_int1 (by rfl) T.int (by decide +kernel) (pa_cons (pe_ix ix_list (pv 0) pe_int (fun _ _ => rfl)) pa_nil)) (pe_callB (call_max2 rfl) (by rfl) T.max (by decide +kernel) (pa_cons pe_int (pa_cons (pe_callB call_len (by rfl) T.len (by decide +kernel) (pa_cons (pe_ix ix_list (pv 0) pe_int (fun _ _ => rfl)) pa_nil)) pa_nil)))) (fun _ _ => rfl)))
      (pss_cons (ps_set (i := 5) scLdraw.nd rfl (Or.inl rfl) (pe_op op_mod (pe_callTy call_int1 (by rfl) T.int (by decide +kernel) (pa_cons (pe_op op_mul (pe_op op_add (pe_op op_add (pv 4) (pe_op op_mul pe_int (pe_ix ix_list (pv 0) pe_int (fun _ _ => rfl)))) pe_int) pe_int) pa_nil)) pe_int))
      (pss_cons (ps_set (i := 5) scLdraw.nd rfl (Or.inl rfl) (pe_op op_mod (pe_callTy call_int1 (by rfl) T.int (by decide +kernel) (pa_cons (pe_op op_mul (pv 5) (pe_op op_add (pe_op op_fdiv (pv 5) pe_int) pe_int)) pa_nil)) pe_int))
      (pss_cons (ps_set (i := 5) scLdraw.nd rfl (Or.inl rfl) (pe_op op_mod (pe_callTy call_int1 (by rfl) T.int (by decide +kernel) (pa_cons (pe_op op_mul (pv 5) (pe_op op_add (pe_op op_fdiv (pv 5) pe_int) pe_int)) pa_nil)) pe_int))
      (pss_one (ps_ret (pe_op op_mod (pe_callTy call_int1 (by rfl) T.int (by decide +kernel) (pa_cons (pe_op op_fdiv (pv 5) pe_int) pa_nil)) (pv 1))))))))))), ?_⟩
    refine ⟨fun σ H1 => ∃ S1 v2, σ = [some (.ref p), some (.int n), v2, none, none, none] ∧ Pool S1 H1 p ∧ Gr p S H S1 H1, ?_, ?_⟩
    · refine ⟨_, rfl, p, _, 2, _, rfl, rfl, SqL.of hp, atI_nat (j := 2) rfl, rfl, _, rfl, ite2 (fun c => ?_) (fun c => ?_)⟩
      · refine ⟨_, rfl, p, _, 0, _, rfl, rfl, SqL.of hp, atI_nat (j := 0) rfl, _, _, rfl, .inl ⟨_, SqL.of (ss _ _ hg), rfl⟩, _, _, rfl, rfl, _, rfl, ite2 (fun c2 => ?_) (fun c2 => ?_)⟩
        · refine ⟨_, rfl, p, _, 0, _, rfl, rfl, SqL.of hp, atI_nat (j := 0) rfl, ?_⟩
          obtain ⟨x, r, rfl⟩ : ∃ x r, gs = x :: r := by
            cases gs with
            | nil => cases c2
            | cons x r => exact ⟨x, r, rfl⟩
          have P0 : Pool S H p := ⟨ss, np, g, sm, cur, cnt, _, ns, hp, hg, hs, lg, ls⟩
          have hg' := ss _ _ hg
          refine ⟨_, rfl, g, _, 0, _, rfl, rfl, SqL.of hg', atI_nat (j := 0) rfl, _, rfl, 1, rfl, g, _, rfl, SqL.of hg', fun l hl => ?_⟩
          have P1 := P0.new (o := .lst (cutV (List.map V.int (x :: r)) (some 1) none)) hl
          refine ⟨by show 2 ≤ sizeLine; decide, fun t ht => ?_⟩
          have P2 := P1.new (o := .tup [V.int x, V.ref l]) ht
          have npl : p ≠ l := fun z => P0.has (by rw [z]; exact hl)
          have npt : p ≠ t := fun z => P1.has (by rw [z]; exact ht)
          have nlt : l ≠ t := fun z => by rw [← z, upd_same] at ht; cases ht
          have hp2 : upd (upd H l (.lst (cutV (List.map V.int (x :: r)) (some 1) none))) t (.tup [V.int x, V.ref l]) p = some (.lst [.ref g, .ref sm, .int cur, .int cnt]) := by rw [upd_ne npt, upd_ne npl]; exact hp
          refine ⟨t, _, rfl, SqT.of upd_same, rfl, _, _, rfl, ?_⟩
          refine ⟨_, rfl, p, _, 2, 2, rfl, rfl, hp2, rfl, ?_⟩
          refine ⟨_, _, rfl, _, rfl, p, _, 0, 0, rfl, rfl, upd_same, rfl, ?_⟩
          refine ⟨rfl, upd (upd S l (.lst (cutV (List.map V.int (x :: r)) (some 1) none))) t (.tup [V.int x, V.ref l]), some (.ref g), rfl, ?_, ((Gr.refl.new ss hl).new P1.ss ht).putP.putP⟩
          refine ⟨same_put (same_put P2.ss P2.np) P2.np, P2.np, l, sm, x, cnt, r, ns, by rw [upd_same]; rfl, by rw [upd_ne nlt, upd_same, show (1 : Int) = ((1 : Nat) : Int) from rfl, cut_from]; rfl, ?_, by simp at lg; omega, ls⟩
          rw [upd_ne (ne_of_none (same_upd (ss.free hl) _ _ hs) (P1.ss.free ht)), upd_ne (ne_of_none hs (ss.free hl))]
          exact hs
        · exact ⟨S, none, rfl, ⟨ss, np, g, sm, cur, cnt, gs, ns, hp, hg, hs, lg, ls⟩, Gr.refl⟩
      · exact ⟨S, none, rfl, ⟨ss, np, g, sm, cur, cnt, gs, ns, hp, hg, hs, lg, ls⟩, Gr.refl⟩
    · rintro σ H1 ⟨S1, v2, rfl, P1, g1⟩
      obtain ⟨ss, np, g, sm, cur, cnt, gs, ns, hp, hg, hs, lg, ls⟩ := id P1
      refine ⟨_, rfl, p, _, 2, _, rfl, rfl, SqL.of hp, atI_nat (j := 2) rfl, _, _, rfl, rfl, _, rfl, ite2 (fun c => ?_) (fun c => ?_)⟩
      · refine ⟨_, rfl, p, _, 2, _, rfl, rfl, SqL.of hp, atI_nat (j := 2) rfl, .inl ⟨_, rfl, _, rfl, _, _, rfl, rfl, n0, _, rfl, p, _, 2, _, rfl, rfl, SqL.of hp, atI_nat (j := 2) rfl, _, rfl, _, _, rfl, rfl, ⟨n0, by omega⟩, by show 2 ≤ sizeLine; decide, fun t ht => ?_⟩⟩
        have npt : p ≠ t := fun z => P1.has (by rw [z]; exact ht)
        have P2 := P1.new (o := .tup [V.int (cur % n), V.int (cur / n)]) ht
        refine ⟨t, _, rfl, SqT.of upd_same, rfl, _, _, rfl, _, _, rfl, _, rfl, p, _, 2, 2, rfl, rfl, (upd_ne npt).trans hp, rfl, rfl, _, rfl, ?_⟩
        refine q _ _ _ ?_ (g1.new ss ht).putP (Int.emod_nonneg _ (by omega)) (Int.emod_lt_of_pos _ n0)
        refine ⟨same_put P2.ss P2.np, P2.np, g, sm, cur / n, cnt, gs, ns, by rw [upd_same]; rfl, by rw [upd_ne (ne_of_none hg (ss.free ht))]; exact hg, by rw [upd_ne (ne_of_none hs (ss.free ht))]; exact hs, lg, ls⟩
      · refine ⟨_, rfl, p, _, 3, _, rfl, rfl, SqL.of hp, atI_nat (j := 3) rfl, _, _, rfl, rfl, _, rfl, p, _, 3, 3, rfl, rfl, hp, rfl, ?_⟩
        have Pa : Pool S1 (upd H1 p (.lst [.ref g, .ref sm, .int cur, .int (cnt + 1)])) p := ⟨same_put ss np, np, g, sm, cur, cnt + 1, gs, ns, upd_same, hg, hs, lg, ls⟩
        have ga : Gr p S H S1 (upd H1 p (.lst [.ref g, .ref sm, .int cur, .int (cnt + 1)])) := g1.putP
        show tSeq _ _ _ _ (upd H1 p (.lst [.ref g, .ref sm, .int cur, .int (cnt + 1)]))
        have ha : upd H1 p (.lst [.ref g, .ref sm, .int cur, .int (cnt + 1)]) p = some (.lst [.ref g, .ref sm, .int cur, .int (cnt + 1)]) := upd_same
        generalize upd H1 p (.lst [.ref g, .ref sm, .int cur, .int (cnt + 1)]) = Ha at Pa ga ha ⊢
        have hsa := Pa.ss _ _ hs
        refine ⟨_, rfl, p, _, 1, _, rfl, rfl, SqL.of ha, atI_nat (j := 1) rfl, by show 1 ≤ sizeLine; decide, fun b hb => ?_⟩
        have Pb := Pa.new (o := .lst [V.int 0]) hb
        have gb := ga.new (o := .lst [V.int 0]) Pa.ss hb
        have npb : p ≠ b := fun z => Pa.has (by rw [z]; exact hb)
        have hpb : upd Ha b (.lst [V.int 0]) p = some (.lst [.ref g, .ref sm, .int cur, .int (cnt + 1)]) := (upd_ne npb).trans ha
        have hsb : upd Ha b (.lst [V.int 0]) sm = some (.lst (ns.map V.int)) := (upd_ne (ne_of_none hsa hb)).trans hsa
        have hbb : upd Ha b (.lst [V.int 0]) b = some (.lst [V.int 0]) := upd_same
        generalize upd Ha b (.lst [V.int 0]) = Hb at Pb gb hpb hsb hbb ⊢
        refine ⟨sm, b, _, _, rfl, rfl, hsb, hbb, ?_, fun l hl => ?_⟩
        · rw [List.length_map]
          exact Nat.le_of_lt (small1000 (by show ns.length + 1 ≤ 1000; omega))
        have Pc := Pb.new (o := .lst (ns.map V.int ++ [V.int 0])) hl
        have gc := gb.new (o := .lst (ns.map V.int ++ [V.int 0])) Pb.ss hl
        have npl : p ≠ l := fun z => Pb.has (by rw [z]; exact hl)
        have hpc : upd Hb l (.lst (ns.map V.int ++ [V.int 0])) p = some (.lst [.ref g, .ref sm, .int cur, .int (cnt + 1)]) := (upd_ne npl).trans hpb
        have hsc : upd Hb l (.lst (ns.map V.int ++ [V.int 0])) sm = some (.lst (ns.map V.int)) := (upd_ne (ne_of_none hsb hl)).trans hsb
        have hlc : upd Hb l (.lst (ns.map V.int ++ [V.int 0])) l = some (.lst (ns.map V.int ++ [V.int 0])) := upd_same
        generalize upd Hb l (.lst (ns.map V.int ++ [V.int 0])) = Hc at Pc gc hpc hsc hlc ⊢
        refine ⟨_, rfl, p, _, 3, _, rfl, rfl, SqL.of hpc, atI_nat (j := 3) rfl, .inl ⟨_, rfl, _, rfl, p, _, 1, _, rfl, rfl, SqL.of hpc, atI_nat (j := 1) rfl, _, _, rfl, .inl ⟨_, SqL.of hsc, rfl⟩, _, _, rfl, _, _, rfl, rfl, ?_, ?_⟩⟩
        · show (0 : Int) < if ((ns.map V.int).length : Int) > 1 then ((ns.map V.int).length : Int) else 1
          split <;> omega
        obtain ⟨z, hz⟩ : ∃ z : Int, atI (ns.map V.int ++ [V.int 0]) ((cnt + 1) % (if ((ns.map V.int).length : Int) > 1 then ((ns.map V.int).length : Int) else 1)) = some (.int z) := by
          have e : ns.map V.int ++ [V.int 0] = (ns ++ [0]).map V.int := by simp
          obtain ⟨j, hj, hjl⟩ : ∃ j : Nat, (cnt + 1) % (if ((ns.map V.int).length : Int) > 1 then ((ns.map V.int).length : Int) else 1) = (j : Int) ∧ j < ns.length + 1 := by
            rw [List.length_map]
            have hm : (0 : Int) < if (ns.length : Int) > 1 then (ns.length : Int) else 1 := by split <;> omega
            have hm2 : (if (ns.length : Int) > 1 then (ns.length : Int) else 1) ≤ ns.length + 1 := by split <;> omega
            have h1 := Int.emod_nonneg (cnt + 1) (b := if (ns.length : Int) > 1 then (ns.length : Int) else 1) (by omega)
            have h2 := Int.emod_lt_of_pos (cnt + 1) hm
            exact ⟨((cnt + 1) % (if (ns.length : Int) > 1 then (ns.length : Int) else 1)).toNat, by omega, by omega⟩
          rw [hj, e]
          have hl2 : j < (ns ++ [0]).length := by simp; omega
          exact ⟨(ns ++ [0])[j], atI_nat (by rw [List.getElem?_map, List.getElem?_eq_getElem hl2]; rfl)⟩
        refine ⟨l, _, _, _, rfl, rfl, SqL.of hlc, hz, ?_⟩
        refine ⟨_, rfl, _, rfl, p, _, 3, _, rfl, rfl, SqL.of hpc, atI_nat (j := 3) rfl, _, _, rfl, rfl, .inl ⟨by decide, by decide⟩, _, _, rfl, rfl, _, _, rfl, rfl, _, _, rfl, rfl, .inr ⟨by decide, by decide⟩, .inl ⟨_, rfl, _, _, rfl, rfl, by show (0 : Int) < 2147483647; decide, ?_⟩⟩
        have y0 := Int.emod_nonneg ((z + 7919 * (cnt + 1) + 1) * 48271) (b := 2147483647) (by decide)
        have y1 := Int.emod_lt_of_pos ((z + 7919 * (cnt + 1) + 1) * 48271) (b := 2147483647) (by decide)
        show tSeq _ _ _ [some (.ref p), some (.int n), v2, none, some (.int z), some (.int (((z + 7919 * (cnt + 1) + 1) * 48271) % 2147483647))] Hc
        generalize ((z + 7919 * (cnt + 1) + 1) * 48271) % 2147483647 = y at y0 y1 ⊢
        refine ⟨_, rfl, _, rfl, _, _, rfl, rfl, ⟨by decide, by decide⟩, _, _, rfl, rfl, _, _, rfl, rfl, .inl ⟨by omega, by omega⟩, .inl ⟨_, rfl, _, _, rfl, rfl, by show (0 : Int) < 2147483647; decide, ?_⟩⟩
        have x0 := Int.emod_nonneg (y * (y / 1009 + 69621)) (b := 2147483647) (by decide)
        have x1 := Int.emod_lt_of_pos (y * (y / 1009 + 69621)) (b := 2147483647) (by decide)
        show tSeq _ _ _ [some (.ref p), some (.int n), v2, none, some (.int z), some (.int ((y * (y / 1009 + 69621)) % 2147483647))] Hc
        generalize (y * (y / 1009 + 69621)) % 2147483647 = x at x0 x1 ⊢
        refine ⟨_, rfl, _, rfl, _, _, rfl, rfl, ⟨by decide, by decide⟩, _, _, rfl, rfl, _, _, rfl, rfl, .inl ⟨by omega, by omega⟩, .inl ⟨_, rfl, _, _, rfl, rfl, by show (0 : Int) < 2147483399; decide, ?_⟩⟩
        refine ⟨_, rfl, _, _, rfl, rfl, ⟨by decide, by decide⟩, .inl ⟨_, rfl, _, rfl, _, _, rfl, rfl, n0, ?_⟩⟩
        exact q _ _ _ Pc gc (Int.emod_nonneg _ (by omega)) (Int.emod_lt_of_pos _ n0)
end
end WW

set_option Elab.async false
set_option linter.all false
set_option maxRecDepth 100000
set_option maxHeartbeats 4000000
namespace WW
open PySem PySem.Spec PyProof.Rows L2
section
variable {P : Program} {w : World} {K : PySem.W.Frag} {mg : Str → Option Value} {base : Heap} {f : Addr} {fd : FuncData}
abbrev sLpool : Stmt := topS 20
abbrev nLpool : List Str := ["_law_script", "_law_cells", "_law_great", "_law_small", "_law_cell"]
theorem scLpool : FnScope nLpool ["_law_script"] (defScope sLpool) := ⟨rfl, rfl, rfl, by decide +kernel, rfl, by decide +kernel, by decide +kernel⟩
def spPool (K : PySem.W.Frag) : Sp := fun vs H Q _ => ∃ (a : Addr) (ns : List Int), vs = [.ref a] ∧ SqL K H a (ns.map V.int) ∧ ns.length ≤ 63 ∧
  ∀ (p : Addr) (S' H' : Hp), Pool S' H' p → Same H S' → Q (.ref p) H'
def absI (v : V) : Option V := match v with
  | .int i => some (.int (if i < 0 then -i else i))
  | _ => none
def grI (v : V) : Option V := match v with
  | .int i => if decide ((10 : Int) ^ (18 : Int).toNat ≤ i) = true then some (.int i) else none
  | _ => none
def smI (v : V) : Option V := match v with
  | .int i => if decide (i < (10 : Int) ^ (18 : Int).toNat) = true then some (.int (i % 1000003)) else none
  | _ => none
def isI (v : V) : Prop := ∃ i, v = .int i
theorem ints_of : ∀ (xs : List V), (∀ v ∈ xs, isI v) → ∃ ns : List Int, xs = ns.map V.int
  | [], _ => ⟨[], rfl⟩
  | x :: r, h => by
    obtain ⟨i, rfl⟩ := h x (by simp)
    obtain ⟨ns, rfl⟩ := ints_of r fun v hv => h v (by simp [hv])
    exact ⟨i :: ns, rfl⟩
theorem fm_ints (g : V → Option V) (hg : ∀ v w, g v = some w → isI w) (xs : List V) : ∃ ns : List Int, xs.filterMap g = ns.map V.int ∧ ns.length ≤ xs.length := by
  obtain ⟨ns, h⟩ := ints_of (xs.filterMap g) fun v hv => by
    obtain ⟨a, _, h⟩ := List.mem_filterMap.mp hv
    exact hg a v h
  refine ⟨ns, h, ?_⟩
  have := List.length_filterMap_le g xs
  rw [h, List.length_map] at this
  exact this
theorem absI_i (v w : V) (h : absI v = some w) : isI w := by
  cases v <;> simp [absI] at h
  exact ⟨_, h.symm⟩
theorem grI_i (v w : V) (h : grI v = some w) : isI w := by
  cases v <;> simp [grI] at h
  exact ⟨_, h.2.symm⟩
theorem smI_i (v w : V) (h : smI v = some w) : isI w := by
  cases v <;> simp [smI] at h
  exact ⟨_, h.2.symm⟩
theorem ok_pool (D : Df K mg "_law_pool" sLpool ["_law_script"] f fd) (T : Bl mg) : FnOk P w K mg base CX0 1 f fd ["_law_script"] (spPool K) := by
  refine D.fn.ok scLpool (fun vs H Q E h => ?_) (fun cdv A outer s H vs Q E hr h => ?_)
  · obtain ⟨a, ns, rfl, _⟩ := h
    rfl
  · obtain ⟨a, ns, rfl, hS, hlen, q⟩ := h
    refine ⟨_, (pss_cons (ps_setLc (i := 1) (own := [("_law_cell", 4)]) rfl scLpool.nd rfl rfl (sw_true rfl rfl rfl (by decide +kernel)) (pi_list (pe_slice sl_list (pv 0) po_none (po_some pe_int))) (blkOk_by (own := [("_law_cell", 4)]) (N := nLpool) (sc := defScope sLpool) (by decide +kernel)) (fun _ _ _ _ _ => (pg_name (i := 4) scLpool.nd rfl (Or.inl rfl))) (fun _ _ _ _ _ => pts_nil) (fun _ _ _ _ _ => (pe_callB call_abs (by rfl) T.abs (by decide +kernel) (pa_cons (pe_callTy call_int1 (by rfl) T.int (by decide +kernel) (pa_cons (pv 4) pa_nil)) pa_nil))))
      (pss_cons (ps_setLc (i := 2) (own := [("_law_cell", 4)]) rfl scLpool.nd rfl rfl (sw_true rfl rfl rfl (by decide +kernel)) (pi_list (pv 1)) (blkOk_by (own := [("_law_cell", 4)]) (N := nLpool) (sc := defScope sLpool) (by decide +kernel)) (fun _ _ _ _ _ => (pg_name (i := 4) scLpool.nd rfl (Or.inl rfl))) (fun _ _ _ _ _ => (pts_one (pt_cmpR op_ge (pv 4) (pe_op op_pow pe_int pe_int) (nomark _)))) (fun _ _ _ _ _ => (pv 4)))
      (pss_cons (ps_setLc (i := 3) (own := [("_law_cell", 4)]) rfl scLpool.nd rfl rfl (sw_true rfl rfl rfl (by decide +kernel)) (pi_list (pv 1)) (blkOk_by (own := [("_law_cell", 4)]) (N := nLpool) (sc := defScope sLpool) (by decide +kernel)) (fun _ _ _ _ _ => (pg_name (i := 4) scLpool.nd rfl (Or.inl rfl))) (fun _ _ _ _ _ => (pts_one (pt_cmpR op_lt (pv 4) (pe_op op_pow pe_int pe_int) (nomark _)))) (fun _ _ _ _ _ => (pe_op op_mod (pe_callTy call_int1 (by rfl) T.int (by decide +kernel) (pa_cons (pv 4) pa_nil)) pe_int)))
      (pss_one (ps_ret (pe_lst (pa_cons (pv 2) (pa_cons (pv 3) (pa_cons pe_int (pa_cons pe_int pa_nil)))))))))), ?_⟩
    refine ⟨_, rfl, 63, rfl, a, _, rfl, hS, fun l hl => ?_⟩
    refine ⟨l, rfl, ⟨_, SqL.of upd_same⟩, fun D1 hD1 => lc_pure absI (SqL.of upd_same) ?_ (fun _ => rfl) (fun x H2 hx hs Q hq => ?_) hD1 (fun H2 s2 h2 => ?_)⟩
    · rw [show (63 : Int) = ((63 : Nat) : Int) from rfl, cut_to]
      simp
      omega
    · obtain ⟨i, rfl⟩ : isI x := by
        rw [show (63 : Int) = ((63 : Nat) : Int) from rfl, cut_to, ← List.map_take] at hx
        obtain ⟨i, _, rfl⟩ := List.mem_map.mp hx
        exact ⟨i, rfl⟩
      exact iteT (B := Q none H2) ⟨_, rfl, .inl ⟨_, rfl, _, rfl, hq _ (Same.refl _)⟩⟩
    obtain ⟨n1, e1, l1⟩ := fm_ints absI absI_i (cutV (ns.map V.int) none (some 63))
    have l1' : n1.length ≤ 63 := by
      rw [show (63 : Int) = ((63 : Nat) : Int) from rfl, cut_to, List.length_take, List.length_map] at l1
      omega
    rw [e1] at h2
    have s02 : Same H H2 := (same_upd hl).trans s2
    refine ⟨_, rfl, D1, rfl, ⟨_, SqL.of h2⟩, fun D2 hD2 => lc_pure grI (SqL.of h2) (by rw [List.length_map]; omega) (fun _ => rfl) (fun x H3 hx hs Q hq => ?_) hD2 (fun H3 s3 h3 => ?_)⟩
    · obtain ⟨i, _, rfl⟩ := List.mem_map.mp hx
      refine ⟨_, rfl, _, _, rfl, rfl, ⟨by decide, by decide, by decide⟩, _, _, rfl, rfl, _, rfl, ?_⟩
      refine ite2 (fun c => ⟨_, rfl, ?_⟩) (fun c => ?_)
      · have := hq H3 (Same.refl _)
        rw [show grI (V.int i) = some (V.int i) from if_pos c] at this
        exact this
      · have := hq H3 (Same.refl _)
        rw [show grI (V.int i) = none from if_neg c] at this
        exact this
    obtain ⟨n2, e2, l2⟩ := fm_ints grI grI_i (n1.map V.int)
    rw [e2] at h3
    rw [List.length_map] at l2
    have h13 := s3 _ _ h2
    refine ⟨_, rfl, D1, rfl, ⟨_, SqL.of h13⟩, fun D3 hD3 => lc_pure smI (SqL.of h13) (by rw [List.length_map]; omega) (fun _ => rfl) (fun x H4 hx hs Q hq => ?_) hD3 (fun H4 s4 h4 => ?_)⟩
    · obtain ⟨i, _, rfl⟩ := List.mem_map.mp hx
      refine ⟨_, rfl, _, _, rfl, rfl, ⟨by decide, by decide, by decide⟩, _, _, rfl, rfl, _, rfl, ?_⟩
      refine ite2 (fun c => ⟨_, rfl, .inl ⟨_, rfl, _, _, rfl, rfl, by show (0 : Int) < 1000003; decide, ?_⟩⟩) (fun c => ?_)
      · have := hq H4 (Same.refl _)
        rw [show smI (V.int i) = some (V.int (i % 1000003)) from if_pos c] at this
        exact this
      · have := hq H4 (Same.refl _)
        rw [show smI (V.int i) = none from if_neg c] at this
        exact this
    obtain ⟨n3, e3, l3⟩ := fm_ints smI smI_i (n1.map V.int)
    rw [e3] at h4
    rw [List.length_map] at l3
    refine ⟨_, rfl, _, rfl, by show 4 ≤ sizeLine; decide, fun p hp => ?_⟩
    refine q p H4 _ ⟨same_upd hp, hp, D2, D3, 0, 0, n2, n3, upd_same, s4 _ _ h3, h4, by omega, by omega⟩ (s02.trans (s3.trans s4))
end
end WW

set_option Elab.async false
set_option linter.all false
set_option maxRecDepth 100000
set_option maxHeartbeats 4000000
namespace WW
open PySem PySem.Spec PyProof.Rows L2
section
variable {P : Program} {w : World} {K : PySem.W.Frag} {mg : Str → Option Value} {base : Heap} {f fA : Addr} {fd fdA : FuncData}
abbrev sLpick : Stmt := topS 22
abbrev nLpick : List Str := ["_law_pool_here", "_law_items"]
theorem scLpick : FnScope nLpick ["_law_pool_here", "_law_items"] (defScope sLpick) := ⟨rfl, rfl, rfl, by decide +kernel, rfl, by decide +kernel, by decide +kernel⟩
def spPick : Sp := fun vs H Q _ => ∃ (p a : Addr) (S : Hp) (xs : List V), vs = [.ref p, .ref a] ∧ Pool S H p ∧ H a = some (.lst xs) ∧ a ≠ p ∧ 0 < xs.length ∧ xs.length < 1000 ∧
  ∀ (i : Nat) (v : V) (S' H' : Hp), xs[i]? = some v → Pool S' H' p → Gr p S H S' H' → Q v H'
theorem ok_pick (D : Df K mg "_law_pick" sLpick ["_law_pool_here", "_law_items"] f fd) (DLdraw : Df K mg "_law_draw" sLdraw ["_law_pool_here", "_law_many"] fA fdA) (T : Bl mg) : FnOk P w K mg base CX0 2 f fd ["_law_pool_here", "_law_items"] spPick := by
  have GLdraw : FnOk P w K mg base CX0 1 fA fdA ["_law_pool_here", "_law_many"] spDraw := ok_draw DLdraw T
  refine D.fn.ok scLpick (fun vs H Q E h => ?_) (fun cdv A outer s H vs Q E hr h => ?_)
  · obtain ⟨p, a, S, xs, rfl, _⟩ := h
    rfl
  · obtain ⟨p, a, S, xs, rfl, P0, ha, nap, l0, l1, q⟩ := h
    refine ⟨_, (pss_one (ps_ret (pe_ix ix_list (pv 1) (pe_df DLdraw GLdraw (hr.mono (by decide)) (pa_cons (pv 0) (pa_cons (pe_callB call_len (by rfl) T.len (by decide +kernel) (pa_cons (pv 1) pa_nil)) pa_nil))) (fun _ _ => rfl)))), ?_⟩
    refine ⟨_, rfl, _, rfl, _, rfl, _, _, rfl, .inl ⟨_, SqL.of ha, rfl⟩, p, S, _, rfl, by omega, by omega, P0, fun d S1 H1 P1 g1 d0 d1 => ?_⟩
    have hd : d.toNat < xs.length := by omega
    refine ⟨a, xs, d, xs[d.toNat], rfl, rfl, SqL.of (g1.rs _ _ nap ha), ?_, q _ _ _ _ (List.getElem?_eq_getElem hd) P1 g1⟩
    exact at_of (j := d.toNat) (by omega) (List.getElem?_eq_getElem hd)

/-! ### names -/
def smallS : Str := "abcdefghijklmnopqrstuvwxyz"
def NameOk (z : Str) : Prop := 1 ≤ z.length ∧ z.length ≤ 10 ∧ ∀ c ∈ z.cps.toList, c ∈ smallS.cps.toList
theorem smallS_len : smallS.cps.toList.length = 26 := by decide +kernel
theorem smallS_nd : smallS.cps.toList.Nodup := by decide +kernel
theorem inV_strs (z : Str) : ∀ ts : List Str, inV (.str z) (ts.map V.str) = decide (z ∈ ts)
  | [] => by simp [inV]
  | t :: r => by
    have ih := inV_strs z r
    unfold inV at ih ⊢
    rw [List.map_cons, List.any_cons, ih]
    have e : eqV (.str t) (.str z) = decide (z = t) := by
      show (t == z) = decide (z = t)
      by_cases h : z = t
      · subst h
        simp
      · rw [decide_eq_false h]
        exact beq_eq_false_iff_ne.mpr (fun q => h q.symm)
    rw [e]
    simp [Bool.decide_or]
theorem strs_flat : ∀ ts : List Str, (ts.map V.str).all flatV = true
  | [] => rfl
  | _ :: r => by
    rw [List.map_cons, List.all_cons, strs_flat r]
    rfl
theorem pigeon {α : Type} [DecidableEq α] : ∀ (cs ts : List α), cs.Nodup → (∀ c ∈ cs, c ∈ ts) → cs.length ≤ ts.length
  | [], _, _, _ => Nat.zero_le _
  | c :: r, ts, nd, h => by
    have hc : c ∈ ts := h c (by simp)
    have ih := pigeon r (ts.erase c) (List.nodup_cons.mp nd).2 fun d hd => by
      have ne : d ≠ c := fun q => (List.nodup_cons.mp nd).1 (q ▸ hd)
      exact (List.mem_erase_of_ne ne).mpr (h d (by simp [hd]))
    rw [List.length_erase_of_mem hc] at ih
    have : 0 < ts.length := List.length_pos_of_mem hc
    simp
    omega
theorem join1 : ∀ cs : List Nat, TL.joinL [] (cs.map fun c => [c]) = cs
  | [] => rfl
  | [_] => rfl
  | c :: d :: r => by
    have ih := join1 (d :: r)
    show [c] ++ ([] ++ TL.joinL [] ((d :: r).map fun c => [c])) = _
    rw [ih]
    rfl
theorem joined (cs : List Nat) : Txt.join "" (cs.map fun c => (⟨#[c]⟩ : Str)) = ⟨cs.toArray⟩ := by
  have h : TL.tl (Txt.join "" (cs.map fun c => (⟨#[c]⟩ : Str))) = cs := by
    rw [TL.join_eq, TL.tl_join, List.map_map]
    exact join1 cs
  generalize Txt.join "" (cs.map fun c => (⟨#[c]⟩ : Str)) = z at h
  cases z with
  | mk a =>
    rw [← h]
theorem sum_ones : ∀ cs : List Nat, ((cs.map fun c => (⟨#[c]⟩ : Str)).map (·.length)).sum = cs.length
  | [] => rfl
  | c :: r => by
    rw [List.map_cons, List.map_cons, List.sum_cons, sum_ones r]
    show 1 + r.length = r.length + 1
    omega
def candF (z : Str) (ts : List Str) (v : V) : Option V := match v with
  | .str s => if (if true = true then !inV (.str (cutS z none (some 9) ++ s)) (ts.map V.str) else inV (.str (cutS z none (some 9) ++ s)) (ts.map V.str)) = true then some (.str (cutS z none (some 9) ++ s)) else none
  | _ => none
theorem app_cps (a b : Str) : (a ++ b).cps = a.cps ++ b.cps := rfl
theorem candF_eq (z : Str) (ts : List Str) (s : Str) : candF z ts (.str s) = if cutS z none (some 9) ++ s ∈ ts then none else some (.str (cutS z none (some 9) ++ s)) := by
  show (if (!inV _ _) = true then _ else _) = _
  rw [inV_strs]
  by_cases h : cutS z none (some 9) ++ s ∈ ts
  · rw [decide_eq_true h, if_pos h]
    rfl
  · rw [decide_eq_false h, if_neg h]
    rfl
theorem cand_name {z : Str} (hz : NameOk z) {c : Nat} (hc : c ∈ smallS.cps.toList) : NameOk (cutS z none (some 9) ++ ⟨#[c]⟩) := by
  have e : cutS z none (some 9) = ⟨(z.cps.toList.take 9).toArray⟩ := cutS_to z 9
  rw [e]
  refine ⟨?_, ?_, ?_⟩
  · show 1 ≤ (_ ++ _ : Array Nat).size
    rw [Array.size_append]
    show 1 ≤ _ + 1
    omega
  · show (_ ++ _ : Array Nat).size ≤ 10
    rw [Array.size_append]
    show (z.cps.toList.take 9).toArray.size + 1 ≤ 10
    rw [List.size_toArray, List.length_take]
    omega
  · intro d hd
    rw [app_cps] at hd
    simp at hd
    rcases hd with h | h
    · exact hz.2.2 d (by simpa using List.mem_of_mem_take h)
    · rw [h]
      exact hc
theorem cand {z : Str} {ts : List Str} (hz : NameOk z) (lt : ts.length < 26) : ∃ y r, (signs smallS).filterMap (candF z ts) = V.str y :: r ∧ NameOk y ∧ y ∉ ts := by
  cases q : (signs smallS).filterMap (candF z ts) with
  | nil =>
    exfalso
    have h1 : ∀ c ∈ smallS.cps.toList, cutS z none (some 9) ++ ⟨#[c]⟩ ∈ ts := by
      intro c hc
      have h := List.filterMap_eq_nil_iff.mp q (.str ⟨#[c]⟩) (List.mem_map.mpr ⟨c, hc, rfl⟩)
      rw [candF_eq] at h
      by_cases m : cutS z none (some 9) ++ ⟨#[c]⟩ ∈ ts
      · exact m
      · rw [if_neg m] at h
        cases h
    have h2 := pigeon (smallS.cps.toList.map fun c => cutS z none (some 9) ++ (⟨#[c]⟩ : Str)) ts (by
      refine List.pairwise_map.mpr (smallS_nd.imp fun {a b} hab e => hab ?_)
      have e1 : (cutS z none (some 9)).cps ++ #[a] = (cutS z none (some 9)).cps ++ #[b] := congrArg Str.cps e
      have e2 : (cutS z none (some 9)).cps.toList ++ [a] = (cutS z none (some 9)).cps.toList ++ [b] := by
        have := congrArg Array.toList e1
        simpa using this
      simpa using List.append_cancel_left e2) (fun y hy => by
      obtain ⟨c, hc, rfl⟩ := List.mem_map.mp hy
      exact h1 c hc)
    rw [List.length_map, smallS_len] at h2
    omega
  | cons v r =>
    have hv : v ∈ (signs smallS).filterMap (candF z ts) := by rw [q]; simp
    obtain ⟨u, hu, e⟩ := List.mem_filterMap.mp hv
    obtain ⟨c, hc, rfl⟩ := List.mem_map.mp hu
    rw [candF_eq] at e
    by_cases m : cutS z none (some 9) ++ ⟨#[c]⟩ ∈ ts
    · rw [if_pos m] at e
      cases e
    · rw [if_neg m] at e
      cases e
      exact ⟨_, r, rfl, cand_name hz hc, m⟩
abbrev sLname : Stmt := topS 23
abbrev nLname : List Str := ["_law_pool_here", "_law_taken", "_law_letters", "_law_size", "_law_name_here", "_law_k", "_law_letter"]
theorem scLname : FnScope nLname ["_law_pool_here", "_law_taken"] (defScope sLname) := ⟨rfl, rfl, rfl, by decide +kernel, rfl, by decide +kernel, by decide +kernel⟩
def spName : Sp := fun vs H Q _ => ∃ (p t : Addr) (S : Hp) (ts : List Str), vs = [.ref p, .ref t] ∧ Pool S H p ∧ H t = some (.lst (ts.map V.str)) ∧ t ≠ p ∧ ts.length < 26 ∧
  ∀ (z : Str) (S' H' : Hp), NameOk z → z ∉ ts → Pool S' H' p → Gr p S H S' H' → Q (.str z) H'
theorem sizes {d : Int} (h0 : 0 ≤ d) (h1 : d < 7) : ∃ n : Int, 1 ≤ n ∧ n ≤ 10 ∧ atI [V.int 1, V.int 1, V.int 2, V.int 3, V.int 4, V.int 6, V.int 10] d = some (V.int n) := by
  obtain rfl | rfl | rfl | rfl | rfl | rfl | rfl : d = 0 ∨ d = 1 ∨ d = 2 ∨ d = 3 ∨ d = 4 ∨ d = 5 ∨ d = 6 := by omega
  · exact ⟨1, by decide, by decide, rfl⟩
  · exact ⟨1, by decide, by decide, rfl⟩
  · exact ⟨2, by decide, by decide, rfl⟩
  · exact ⟨3, by decide, by decide, rfl⟩
  · exact ⟨4, by decide, by decide, rfl⟩
  · exact ⟨6, by decide, by decide, rfl⟩
  · exact ⟨10, by decide, by decide, rfl⟩
theorem ok_name (D : Df K mg "_law_name" sLname ["_law_pool_here", "_law_taken"] f fd) (DLdraw : Df K mg "_law_draw" sLdraw ["_law_pool_here", "_law_many"] fA fdA) (T : Bl mg) : FnOk P w K mg base CX0 2 f fd ["_law_pool_here", "_law_taken"] spName := by
  have GLdraw : FnOk P w K mg base CX0 1 fA fdA ["_law_pool_here", "_law_many"] spDraw := ok_draw DLdraw T
  refine D.fn.ok scLname (fun vs H Q E h => ?_) (fun cdv A outer s H vs Q E hr h => ?_)
  · obtain ⟨p, a, S, xs, rfl, _⟩ := h
    rfl
  · obtain ⟨p, t, S, ts, rfl, P0, ht, ntp, lt, q⟩ := h
    refine ⟨_, (pss_cons (ps_set (i := 2) scLname.nd rfl (Or.inr rfl) pe_str)
      (pss_cons (ps_set (i := 3) scLname.nd rfl (Or.inl rfl) (pe_ix ix_list (pe_lst (pa_cons pe_int (pa_cons pe_int (pa_cons pe_int (pa_cons pe_int (pa_cons pe_int (pa_cons pe_int (pa_cons pe_int pa_nil)))))))) (pe_df DLdraw GLdraw (hr.mono (by decide)) (pa_cons (pv 0) (pa_cons pe_int pa_nil))) (fun _ _ => rfl)))
      (pss_cons (ps_set (i := 4) scLname.nd rfl (Or.inr rfl) (pe_join pe_str (pe_lc (own := [("_law_k", 5)]) rfl scLname.nd (pi_range1 (by rfl) T.range (pa_cons (pv 3) pa_nil)) (blkOk_by (own := [("_law_k", 5)]) (N := nLname) (sc := defScope sLname) (by decide +kernel)) (fun _ _ _ _ _ => (pg_name (i := 5) scLname.nd rfl (Or.inl rfl))) (fun _ _ _ _ _ => pts_nil) (fun _ _ _ _ _ => (pe_ix ix_str (pv 2) (pe_df DLdraw GLdraw (hr.mono (by decide)) (pa_cons (pv 0) (pa_cons pe_int pa_nil))) (fun _ _ => rfl))))))
      (C8.pss_cut (ps_if (pt_cmpR op_in_seq (pv 4) (pv 1) (by rfl)) (pss_one (ps_set (i := 4) scLname.nd rfl (Or.inr rfl) (pe_ix ix_list (pe_lc (own := [("_law_letter", 6)]) rfl scLname.nd (pi_str (pv 2)) (blkOk_by (own := [("_law_letter", 6)]) (N := nLname) (sc := defScope sLname) (by decide +kernel)) (fun _ _ _ _ _ => (pg_name (i := 6) scLname.nd rfl (Or.inl rfl))) (fun _ _ _ _ _ => (pts_one (pt_cmpR (r := rIn K true) op_notIn_seq (pe_op op_add_str (pe_slice sl_str (pv 4) po_none (po_some pe_int)) (pv 6)) (pv 1) (by rfl)))) (fun _ _ _ _ _ => (pe_op op_add_str (pe_slice sl_str (pv 4) po_none (po_some pe_int)) (pv 6)))) pe_int (fun _ _ => rfl)))) pss_nil)
      (pss_one (ps_ret (pv 4))))))), ?_⟩
    refine ⟨by show 7 ≤ sizeLine; decide, fun l hl => ?_⟩
    have P1 := P0.new (o := .lst [V.int 1, V.int 1, V.int 2, V.int 3, V.int 4, V.int 6, V.int 10]) hl
    have g1 := (Gr.refl (p := p) (S := S) (H := H)).new (o := .lst [V.int 1, V.int 1, V.int 2, V.int 3, V.int 4, V.int 6, V.int 10]) P0.ss hl
    have nlp : l ≠ p := fun z => P0.has (by rw [← z]; exact hl)
    refine ⟨_, rfl, p, _, 7, rfl, by decide, by decide, P1, fun d S2 H2 P2 g2 d0 d1 => ?_⟩
    obtain ⟨n, n1, n2, hn⟩ := sizes d0 d1
    refine ⟨l, _, d, _, rfl, rfl, SqL.of (g2.rs _ _ nlp upd_same), hn, ?_⟩
    have g02 := g1.trans g2
    show tSeq _ _ _ [some (.ref p), some (.ref t), some (.str smallS), some (.int n), none, none, none] H2
    refine ⟨⟨_, rfl⟩, _, rfl, n, rfl, by omega, by omega, fun D1 hD1 => lc_range (lo := 0) (n := n.toNat) (fun i H' => ∃ (S' : Hp) (cs : List Nat), Pool S' H' p ∧ S' D1 = none ∧ Gr p S2 H2 S' H' ∧ H' D1 = some (.lst ((cs.map fun c => (⟨#[c]⟩ : Str)).map V.str)) ∧ cs.length = i ∧ ∀ c ∈ cs, c ∈ smallS.cps.toList) ?_ ?_ ?_⟩
    · refine ⟨S2, [], P2.put (P2.ss.free hD1) (fun z => P2.has (by rw [← z]; exact hD1)), P2.ss.free hD1, Gr.refl.put hD1, upd_same, rfl, fun c h => by cases h⟩
    · rintro i H' hi ⟨S', cs, P', sD, g', hD', lc, hc⟩
      have nDp : D1 ≠ p := fun z => P2.has (by rw [← z]; exact hD1)
      refine ⟨rfl, _, rfl, _, rfl, p, S', 26, rfl, by decide, by decide, P', fun e S3 H3 P3 g3 e0 e1 => ?_⟩
      have he : e.toNat < smallS.cps.toList.length := by rw [smallS_len]; omega
      refine ⟨smallS, e, smallS.cps.toList[e.toNat], rfl, rfl, by decide, at_ofG (j := e.toNat) (show e = ((e.toNat : Nat) : Int) by omega) (List.getElem?_eq_getElem he), ?_⟩
      obtain ⟨sD3, hD3⟩ := g3.loc nDp sD hD'
      refine ⟨_, hD3, ?_, S3, cs ++ [smallS.cps.toList[e.toNat]], P3.put sD3 nDp, sD3, (g'.trans g3).put hD1, ?_, ?_, ?_⟩
      · rw [List.length_map, List.length_map]
        exact small1000 (by omega)
      · rw [upd_same]
        simp
      · simp [lc]
      · intro c h
        rcases List.mem_append.mp h with h | h
        · exact hc c h
        · rw [List.mem_singleton.mp h]
          exact List.getElem_mem _
    · rintro H' ⟨S3, cs, P3, sD, g3, hD3, lc, hc⟩
      refine ⟨_, _, _, rfl, rfl, .inl (SqL.of hD3), ?_, ?_⟩
      · rw [sum_ones, List.length_map]
        show cs.length + cs.length * 0 ≤ _
        omega
      have nDp : D1 ≠ p := fun z => P2.has (by rw [← z]; exact hD1)
      have g03 : Gr p S H S3 H' := g02.trans g3
      have ht3 := g03.rs _ _ ntp ht
      have hz : NameOk ⟨cs.toArray⟩ := ⟨by show 1 ≤ cs.toArray.size; simp; omega, by show cs.toArray.size ≤ 10; simp; omega, by simpa using hc⟩
      rw [joined]
      show C8.tCut _ _ _ [some (.ref p), some (.ref t), some (.str smallS), some (.int n), some (.str ⟨cs.toArray⟩), none, none] H'
      generalize (⟨cs.toArray⟩ : Str) = z at hz ⊢
      refine ⟨fun σ H4 => ∃ (z : Str) (S4 : Hp), σ = [some (.ref p), some (.ref t), some (.str smallS), some (.int n), some (.str z), none, none] ∧ NameOk z ∧ z ∉ ts ∧ Pool S4 H4 p ∧ Gr p S H S4 H4, ?_, ?_⟩
      · refine ⟨_, rfl, _, rfl, t, _, rfl, .inl (SqL.of ht3), rfl, strs_flat ts, _, rfl, ite2 (fun c => ?_) (fun c => ?_)⟩
        · obtain ⟨y, r, ey, hy, ny⟩ := cand hz lt
          have hz10 := hz.2.1
          refine ⟨_, rfl, smallS, rfl, fun D2 hD2 => lc_pureS (candF z ts) (by decide) (fun _ => rfl) (fun v H5 hv s5 Q5 q5 => ?_) hD2 (fun H5 s5 h5 => ?_)⟩
          · obtain ⟨c, hc, rfl⟩ := List.mem_map.mp hv
            have l9 : (cutS z none (some 9)).length + (⟨#[c]⟩ : Str).length ≤ sizeLine := by
              have h := (cand_name hz hc).2.1
              have e : (cutS z none (some 9) ++ (⟨#[c]⟩ : Str)).length = (cutS z none (some 9)).length + (⟨#[c]⟩ : Str).length := Array.size_append
              rw [e] at h
              exact Nat.le_trans h (by decide)
            have hzl : z.length ≤ sizeLine := Nat.le_trans hz10 (by decide)
            refine ⟨_, rfl, 9, rfl, z, rfl, hzl, _, rfl, _, _, rfl, rfl, l9, _, rfl, t, _, rfl, .inl (SqL.of (s5 _ _ ht3)), rfl, strs_flat ts, _, rfl, ite2 (fun c5 => ?_) (fun c5 => ?_)⟩
            · refine ⟨_, rfl, 9, rfl, z, rfl, hzl, _, rfl, _, _, rfl, rfl, l9, ?_⟩
              have := q5 H5 (Same.refl _)
              rw [show candF z ts (V.str ⟨#[c]⟩) = some (.str (cutS z none (some 9) ++ ⟨#[c]⟩)) from if_pos c5] at this
              exact this
            · have := q5 H5 (Same.refl _)
              rw [show candF z ts (V.str ⟨#[c]⟩) = none from if_neg c5] at this
              exact this
          · rw [ey] at h5
            refine ⟨D2, _, 0, _, rfl, rfl, SqL.of h5, atI_nat (j := 0) rfl, y, S3, rfl, hy, ny, P3.same s5, g03.same s5⟩
        · refine ⟨z, S3, rfl, hz, ?_, P3, g03⟩
          intro hm
          apply c
          rw [inV_strs]
          exact decide_eq_true hm
      · rintro σ H4 ⟨z, S4, rfl, hz, hn, P4, g4⟩
        exact ⟨_, rfl, q z S4 H4 hz hn P4 g4⟩

abbrev sLnames : Stmt := topS 24
abbrev nLnames : List Str := ["_law_pool_here", "_law_many", "_law_names_here", "_law_k"]
theorem scLnames : FnScope nLnames ["_law_pool_here", "_law_many"] (defScope sLnames) := ⟨rfl, rfl, rfl, by decide +kernel, rfl, by decide +kernel, by decide +kernel⟩
def spNames : Sp := fun vs H Q _ => ∃ (p : Addr) (n : Int) (S : Hp), vs = [.ref p, .int n] ∧ Pool S H p ∧ 0 ≤ n ∧ n ≤ 26 ∧
  ∀ (a : Addr) (zs : List Str) (S' H' : Hp), Pool S' H' p → Gr p S H S' H' → S' a = some (.lst (zs.map V.str)) → (zs.length : Int) = n → (∀ z ∈ zs, NameOk z) → zs.Nodup → Q (.ref a) H'
theorem ok_names {fB : Addr} {fdB : FuncData} (D : Df K mg "_law_names" sLnames ["_law_pool_here", "_law_many"] f fd) (DLname : Df K mg "_law_name" sLname ["_law_pool_here", "_law_taken"] fB fdB) (DLdraw : Df K mg "_law_draw" sLdraw ["_law_pool_here", "_law_many"] fA fdA) (T : Bl mg) : FnOk P w K mg base CX0 3 f fd ["_law_pool_here", "_law_many"] spNames := by
  have GLname : FnOk P w K mg base CX0 2 fB fdB ["_law_pool_here", "_law_taken"] spName := ok_name DLname DLdraw T
  refine D.fn.ok scLnames (fun vs H Q E h => ?_) (fun cdv A outer s H vs Q E hr h => ?_)
  · obtain ⟨p, n, S, rfl, _⟩ := h
    rfl
  · obtain ⟨p, n, S, rfl, P0, n0, n1, q⟩ := h
    refine ⟨_, (pss_cons (ps_set (i := 2) scLnames.nd rfl (Or.inl rfl) (pe_lst pa_nil))
      (pss_cons (ps_for PassesOwn.never rfl (pi_range1 (by rfl) T.range (pa_cons (pv 1) pa_nil)) (pg_name (i := 3) scLnames.nd rfl (Or.inl rfl)) (pss_one (ps_expr (pe_bm PySem.F.plainAttrs_list PySem.F.slot_list_append PySem.F.type_list_append mt_append (pv 2) (pa_cons (pe_df DLname GLname (hr.mono (by decide)) (pa_cons (pv 0) (pa_cons (pv 2) pa_nil))) pa_nil)))))
      (pss_one (ps_ret (pv 2))))), ?_⟩
    refine ⟨Nat.zero_le _, fun l hl => ?_⟩
    have nlp : l ≠ p := fun z => P0.has (by rw [← z]; exact hl)
    refine ⟨_, rfl, n, rfl, by omega, by omega, for_range (lo := 0) (n := n.toNat) (fun i σ H' => ∃ (v : Option V) (S' : Hp) (zs : List Str), σ = [some (.ref p), some (.int n), some (.ref l), v] ∧ Pool S' H' p ∧ S' l = none ∧ Gr p S H S' H' ∧ H' l = some (.lst (zs.map V.str)) ∧ zs.length = i ∧ (∀ z ∈ zs, NameOk z) ∧ zs.Nodup) ?_ ?_ ?_⟩
    · exact ⟨none, S, [], rfl, P0.put (P0.ss.free hl) nlp, P0.ss.free hl, Gr.refl.put hl, upd_same, rfl, (fun z h => by cases h), List.nodup_nil⟩
    · rintro i σ H' hi ⟨v, S', zs, rfl, P', sl, g', hl', lz, hz, nd⟩
      refine ⟨_, rfl, .inl ⟨rfl, _, SqL.of hl'⟩, _, rfl, _, rfl, p, l, S', zs, rfl, P', hl', nlp, by omega, fun z S2 H2 hn hm P2 g2 => ?_⟩
      obtain ⟨sl2, hl2⟩ := g2.loc nlp sl hl'
      refine ⟨l, _, _, rfl, rfl, hl2, ?_, _, S2, zs ++ [z], rfl, P2.put sl2 nlp, sl2, (g'.trans g2).put hl, ?_, ?_, ?_, ?_⟩
      · rw [List.length_map]
        exact small1000 (by omega)
      · rw [upd_same]
        simp
      · simp [lz]
      · intro y hy
        rcases List.mem_append.mp hy with h | h
        · exact hz y h
        · rw [List.mem_singleton.mp h]
          exact hn
      · rw [List.nodup_append]
        refine ⟨nd, by simp, ?_⟩
        intro a ha b hb e
        rw [List.mem_singleton.mp hb] at e
        exact hm (e ▸ ha)
    · rintro σ H' ⟨v, S', zs, rfl, P', sl, g', hl', lz, hz, nd⟩
      exact ⟨_, rfl, q l zs _ H' (P'.fix hl' sl nlp) (g'.fix hl sl) upd_same (by omega) hz nd⟩
end
end WW

set_option Elab.async false
set_option linter.all false
set_option maxRecDepth 100000
set_option maxHeartbeats 4000000
namespace WW
open PySem PySem.Spec PyProof.Rows L2
open Sem (wp)
open AutoSeq1 (wpAny_loadPart')
theorem meets_enumerate_newT (l : Addr) (items : Array Value) (n : Nat) (dct : Option Addr) (sl : Array (Option Value)) :
    Meets (Builtin.«enumerate.__new__» ⟨[.type "enumerate", .ref l], []⟩) (fun _ R s => s.heap.get? l = some { cls := .type "tuple", dict := dct, data := .seq items n, slots := sl } ∧
      R (.ok (.ret (.ref (s.heap.push { cls := .type "tuple_iterator", data := .fields #[.ref l, .int 0 0] }).objs.size)))
        { s with heap := (s.heap.push { cls := .type "tuple_iterator", data := .fields #[.ref l, .int 0 0] }).push { cls := .type "enumerate", data := .fields #[.none, .bool false, .ref s.heap.objs.size, rawInt 0, .none, .none] } }) :=
  .of_wp fun prog w A R s h => by
    obtain ⟨hp, g, d, tk, os⟩ := s; obtain ⟨hl, h⟩ := h
    have hsub := sub_enumerate
    have hL : Heap.IsTuple (Shared.heap ⟨hp, g, d, tk, os⟩) l items := ⟨_, hl, rfl, n, rfl⟩
    wp_walk using wpAny_loadPart' hl
    refine wpAny_stack_any fun st => wpAny_pure ?_
    split
    · rename_i c _ _ _ _ _
      cases (c == Value.type "enumerate")
      · wp_walk using wpAny_loadPart' hl, wpAny_pyIter_tuple hL
        exact ⟨_, rfl, h⟩
      · wp_walk using wpAny_loadPart' hl, wpAny_pyIter_tuple hL
        exact ⟨_, rfl, h⟩
    · wp_walk using wpAny_loadPart' hl, wpAny_pyIter_tuple hL
      exact ⟨_, rfl, h⟩
theorem call_enumerate_tuple {prog : Program} {w : World} {A : Around} {E : Value → Shared → Prop} {s : Shared} {l : Addr} {items : Array Value} {Q : Value → Shared → Prop} (hL : s.heap.IsTuple l items)
    (h : ∀ h', IsEnum h' (s.heap.objs.size + 1) s.heap.objs.size 0 .none → h'.IsTupleIter s.heap.objs.size l 0 → h'.objs.size = s.heap.objs.size + 2 →
      (∀ b o, s.heap.get? b = some o → h'.get? b = some o) → Q (.ref (s.heap.objs.size + 1)) { s with heap := h' }) :
    wpAny (model prog w) A (call (.type "enumerate") [.ref l]) Q E s := by
  obtain ⟨⟨c, dct, dt, sl⟩, hl, hc, n, hd⟩ := hL
  replace hc : c = .type "tuple" := hc
  replace hd : dt = .seq items n := hd
  subst hc hd
  refine callType_new F.called_enumerate (by decide) (F.typeCall_enumerate_1 _) (F.newCall_enumerate_1 _) (fun obj => F.args_object_init_2 obj _) F.entry_enumerate_new
    (meets_enumerate_newT l items n dct sl) ⟨hl, ?_⟩
  have hz : (s.heap.push { cls := .type "tuple_iterator", data := .fields #[.ref l, .int 0 0] }).objs.size = s.heap.objs.size + 1 := Heap.size_push ..
  show _ ∧ _
  rw [hz]
  have he : IsEnum ((s.heap.push { cls := .type "tuple_iterator", data := .fields #[.ref l, .int 0 0] }).push
      { cls := .type "enumerate", data := .fields #[.none, .bool false, .ref s.heap.objs.size, rawInt 0, .none, .none] }) (s.heap.objs.size + 1) s.heap.objs.size 0 .none := by
    have := Heap.get?_push_size (s.heap.push { cls := .type "tuple_iterator", data := .fields #[.ref l, .int 0 0] })
      (o := { cls := .type "enumerate", data := .fields #[.none, .bool false, .ref s.heap.objs.size, rawInt 0, .none, .none] }) rfl
    rw [hz] at this; exact this
  refine ⟨⟨_, he, rfl⟩, h _ he ⟨_, Heap.get?_push_of_some _ (Heap.get?_push_size _ rfl), rfl, rfl⟩ (by rw [Heap.size_push, hz]) fun b o x => Heap.get?_push_of_some _ (Heap.get?_push_of_some _ x)⟩
/-- the tuple at a, each item in a new pair -/
def Itet (K : PySem.W.Frag) (a : Addr) : It :=
  ⟨fun i H => ∃ (xs : List V) (x : V), SqT K H a xs ∧ xs[i]? = some x, fun i H v H' => ∃ T x, v = .ref T ∧ H T = none ∧ H' = upd H T (.tup [.int (i : Nat), x]) ∧ ∀ xs, SqT K H a xs → xs[i]? = some x, fun i H => ∃ xs : List V, SqT K H a xs ∧ i = xs.length⟩
theorem turn_enumT {P : Program} {w : World} {K : PySem.W.Frag} {elts : List Expr} {kk : Nat} {tpos : Pos} (a e it : Addr) :
    Turn P w K (.Tuple elts kk tpos) (Itet K a) [e, it] e (fun i h => (∃ old, IsEnum h e it ((i : Nat) : Int) old) ∧ h.IsTupleIter it a i ∧ e ≠ it ∧ a ≠ it ∧ a ≠ e) where
  mem := by simp
  obj := fun i h st b hb => by
    obtain ⟨⟨old, he⟩, ⟨o, ho, hc, hd⟩, _⟩ := st
    have e' : b = e ∨ b = it := by simpa using hb
    rcases e' with z | z
    · rw [z]; exact ⟨_, he, fun v q => nomatch q⟩
    · rw [z]; exact ⟨o, ho, fun v q => by rw [hd] at q; cases q⟩
  keep := fun i h h' st k => let ⟨⟨old, he⟩, hi, hne⟩ := st; ⟨⟨old, k e (by simp) _ he⟩, hi.at fun o q => k it (by simp) o q, hne⟩
  item := by
    intro X hP hw hK hc i pins s σ H E I hf st hg
    subst hP hw hK
    obtain ⟨⟨old, he⟩, hit, hne, hai, hae⟩ := st
    obtain ⟨xs, x, hq, hx⟩ := hg
    obtain ⟨its, rv, p, hz⟩ := I.tuple hq
    obtain ⟨u, hu, ru⟩ := rv.get hx
    have hel : e < s.heap.objs.size := Heap.lt_size he
    have hil : it < s.heap.objs.size := by obtain ⟨_, q, _⟩ := hit; exact Heap.lt_size q
    have pt : s.heap.IsTuple a its.toArray := p
    refine wpAny_pyNext_enum_itemD (Draws.tuple (A := X.A.in1) (show X.A.in1.handled = none from I.ok.hd hc) it a hai its.toArray) he ⟨hit, pt⟩ (by
      have := (List.getElem?_eq_some_iff.mp hu).1
      simpa using this) hne (by simp [hne, Ne.symm hae]) fun u' h' tk hu' ho hst hT hsz hk => ?_
    have eu : u' = u := by
      have e1 : its.toArray[i]? = some u := by simpa using hu
      rw [e1] at hu'
      exact (Option.some.inj hu').symm
    subst eu
    refine ⟨_, rfl, wpAny_letOwnedTupleGo_enum (s := { s with heap := h', toks := tk + 1 }) ho fun h'' he' sb => ?_⟩
    have hT2 : h''.get? s.heap.objs.size = some { cls := .type "tuple", data := .seq #[.int i tk, u'] } := (sb.2 _ (Nat.ne_of_gt hel)).trans hT
    have new : ObjOk X.prog X.w (upd H s.heap.objs.size (.tup [.int (i : Nat), x])) h'' s.heap.objs.size (.tup [.int (i : Nat), x]) :=
      ⟨by show 2 ≤ sizeLine; decide, [.int i tk, u'], .cons ⟨_, rfl⟩ (.cons ru .nil), ⟨_, hT2, rfl, _, rfl⟩⟩
    have I1 : Inv X pins σ (upd H s.heap.objs.size (.tup [.int (i : Nat), x])) { s with heap := h'', toks := tk + 1 } :=
      I.turnedNew (ch := [e, it]) (fun b ob hb q => (sb.2 b (fun z => hb (by simp [z]))).trans (hk b ob (fun z => hb (by simp [z])) (fun z => hb (by simp [z])) q)) hf (Nat.le_refl _) new
    refine ⟨.ref s.heap.objs.size, _, I1, rfl, ⟨_, x, rfl, I.hok.fresh (Nat.le_refl _), rfl, fun ys hy => by rw [I.tuple_inj hy hq]; exact hx⟩, ⟨⟨u', ?_⟩, hst.1.at fun o q => (sb.2 it (Ne.symm hne)).trans q, hne, hai, hae⟩, fun b hb => ?_⟩
    · have e1 : ((i + 1 : Nat) : Int) = (i : Int) + 1 := by omega
      rw [e1]; exact he'
    · have hb' : b < s.heap.objs.size := by
        have e' : b = e ∨ b = it := by simpa using hb
        rcases e' with z | z
        · rw [z]; exact hel
        · rw [z]; exact hil
      rw [upd_ne (Nat.ne_of_lt hb')]
      exact (hf b hb).1
  done := by
    intro X hP hw hK hc i pins s σ H E I hf st hg
    subst hP hw hK
    obtain ⟨⟨old, he⟩, hit, hne, hai, hae⟩ := st
    obtain ⟨xs, hq, hx⟩ := hg
    obtain ⟨its, rv, p, hz⟩ := I.tuple hq
    obtain ⟨f0, f1, f2, f3, f4, f5⟩ := hf it (by simp)
    have hl := rv.length
    have pt : s.heap.IsTuple a its.toArray := p
    have ei : i = its.toArray.size := by rw [List.size_toArray, ← hl]; exact hx
    exact wpAny_pyNext_enum_endD (Draws.tuple (A := X.A.in1) (show X.A.in1.handled = none from I.ok.hd hc) it a hai its.toArray) he ⟨ei ▸ hit, pt⟩ fun h' eb => ⟨rfl, I.turned (t' := s.toks) (fun b o hb q => eb b o hb q) f0 f1 f3 f4 f5⟩
  self := fun A i s Q E st h => let ⟨⟨_, he⟩, _⟩ := st; wpAny_pyIter_enum he h
/-- enumerate of a list or of a tuple -/
def iEnumS (K : PySem.W.Frag) (ta : TA) : TI := fun σ H R => ta σ H fun vs H1 => (∃ a xs, vs = [.ref a] ∧ SqL K H1 a xs ∧ R (Ite K a) H1) ∨ (∃ a xs, vs = [.ref a] ∧ SqT K H1 a xs ∧ R (Itet K a) H1)
theorem pi_enumD {X : Cx} {e : Expr} {ta : TA} {p pos tpos : Pos} {elts : List Expr} {kk : Nat} (hg : Gl X "enumerate") (hm : X.mg "enumerate" = none) (ha : PA X [e] ta) (hs : starEach [e] X.env = [(false, eval e X.env)] := by rfl) :
    PI X (.Tuple elts kk tpos) (.Call (.Name "enumerate" p) [e] [] pos) (iEnumS X.K ta) := by
  refine ⟨fun pins s σ H R I h => ?_⟩
  refine Call_ (ld_blt I hg hm boot_enumerate (PyProof.Rows.callWith_type1 (thn (ha.run pos pins s σ H _ I h) fun us s1 ⟨vs, H1, I1, r1, q1⟩ => ?_) hs rfl))
  rcases q1 with ⟨a, xs, ex, hq, q⟩ | ⟨a, xs, ex, hq, q⟩
  · subst ex
    cases r1 with
    | cons r rr =>
      cases rr
      cases r
      obtain ⟨its, rv, p', hz⟩ := I1.list hq
      refine call_enumerate_list p'.isList fun h' he hit hsz hk => wpAny_pyIter_enum he ?_
      have I2 : Inv X pins σ H1 { s1 with heap := h' } := I1.kept (t' := s1.toks) hk
      refine ⟨s1.heap.objs.size + 1, [s1.heap.objs.size + 1, s1.heap.objs.size], _, _, H1, rfl, I2, turn_enum a (s1.heap.objs.size + 1) s1.heap.objs.size, ⟨⟨.none, he⟩, hit, Nat.succ_ne_self _⟩, fun b hb => ?_, q⟩
      have e' : b = s1.heap.objs.size + 1 ∨ b = s1.heap.objs.size := by simpa using hb
      have hle : s1.heap.objs.size ≤ b := by
        rcases e' with z | z
        · rw [z]; exact Nat.le_add_right _ _
        · rw [z]; exact Nat.le_refl _
      exact I1.fpOk hle (I1.hok.fresh hle)
  · subst ex
    cases r1 with
    | cons r rr =>
      cases rr
      cases r
      obtain ⟨its, rv, p', hz⟩ := I1.tuple hq
      have pt : s1.heap.IsTuple a its.toArray := p'
      have hal : a < s1.heap.objs.size := p'.lt
      refine call_enumerate_tuple pt fun h' he hit hsz hk => wpAny_pyIter_enum he ?_
      have I2 : Inv X pins σ H1 { s1 with heap := h' } := I1.kept (t' := s1.toks) hk
      refine ⟨s1.heap.objs.size + 1, [s1.heap.objs.size + 1, s1.heap.objs.size], _, _, H1, rfl, I2, turn_enumT a (s1.heap.objs.size + 1) s1.heap.objs.size, ⟨⟨.none, he⟩, hit, Nat.succ_ne_self _, Nat.ne_of_lt hal, Nat.ne_of_lt (Nat.lt_succ_of_lt hal)⟩, fun b hb => ?_, q⟩
      have e' : b = s1.heap.objs.size + 1 ∨ b = s1.heap.objs.size := by simpa using hb
      have hle : s1.heap.objs.size ≤ b := by
        rcases e' with z | z
        · rw [z]; exact Nat.le_add_right _ _
        · rw [z]; exact Nat.le_refl _
      exact I1.fpOk hle (I1.hok.fresh hle)
end WW

set_option Elab.async false
set_option linter.all false
set_option maxRecDepth 100000
set_option maxHeartbeats 4000000
namespace WW
open PySem PySem.Spec PyProof.Rows L2
/-! ### sets whose members are keys of one kind, with what their walk wants -/
theorem paired_perm {α β : Type} {R : α → β → Prop} {l l' : List β} (p : l'.Perm l) : ∀ {ls : List α}, Paired R ls l → ∃ ls', ls'.Perm ls ∧ Paired R ls' l' := by
  induction p with
  | nil => intro ls h; exact ⟨ls, List.Perm.refl _, h⟩
  | cons x _ ih =>
    intro ls h
    cases h with
    | cons r t =>
      obtain ⟨ls', p', h'⟩ := ih t
      exact ⟨_ :: ls', p'.cons _, .cons r h'⟩
  | swap x y l =>
    intro ls h
    cases h with
    | cons r t =>
      cases t with
      | cons r2 t2 => exact ⟨_, List.Perm.swap _ _ _, .cons r2 (.cons r t2)⟩
  | trans _ _ ih1 ih2 =>
    intro ls h
    obtain ⟨l2, p2, h2⟩ := ih2 h
    obtain ⟨l1, p1, h1⟩ := ih1 h2
    exact ⟨l1, p1.trans p2, h1⟩
theorem paired_snoc {α β : Type} {R : α → β → Prop} : ∀ {ls : List α} {l : List β} {x : α} {y : β}, Paired R ls l → R x y → Paired R (ls ++ [x]) (l ++ [y])
  | _, _, _, _, .nil, r => .cons r .nil
  | _, _, _, _, .cons q t, r => .cons q (paired_snoc t r)
theorem paired_mem {α β : Type} {R : α → β → Prop} : ∀ {ls : List α} {l : List β}, Paired R ls l → ∀ y ∈ l, ∃ x ∈ ls, R x y
  | _, _, .nil, _, h => by cases h
  | _, _, .cons q t, y, h => by
    rcases List.mem_cons.mp h with h | h
    · subst h
      exact ⟨_, by simp, q⟩
    · obtain ⟨x, hx, r⟩ := paired_mem t y h
      exact ⟨x, by simp [hx], r⟩
theorem paired_memL {α β : Type} {R : α → β → Prop} : ∀ {ls : List α} {l : List β}, Paired R ls l → ∀ x ∈ ls, ∃ y ∈ l, R x y
  | _, _, .nil, _, h => by cases h
  | _, _, .cons q t, y, h => by
    rcases List.mem_cons.mp h with h | h
    · subst h
      exact ⟨_, by simp, q⟩
    · obtain ⟨x, hx, r⟩ := paired_memL t y h
      exact ⟨x, by simp [hx], r⟩
def insG {κ : Type} [DecidableEq κ] (k : κ) (ks : List κ) : List κ := if k ∈ ks then ks else k :: ks
section
variable {P : Program} {w : World} {κ : Type} [DecidableEq κ] (knd : PySem.KeyKind P w κ)
def Ent (k : κ) (e : Int × Value) : Prop := knd.is k e.2 = true ∧ e.1 = knd.hash k ∧ e.2.scannable = true
/-- what is told of a set's content and table -/
def Tab (w : World) (es : Array (Int × Value)) (t : SetTable) (ks : List κ) : Prop :=
  (∃ ls, Paired (Ent knd) ls es.toList ∧ ls.Perm ks) ∧ ks.Nodup ∧ es.size < scanBound ∧ t.fits es.size = true ∧ Ris t.place.toList ∧ (w.params.followText "set-order" = true ∨ t.led = true)
def SetG (h : Heap) (a : Addr) (ks : List κ) : Prop := ∃ o es ep t, h.get? a = some o ∧ o.ExactSet ∧ o.data = .set es ep t ∧ Tab knd w es t ks
variable {knd}
theorem Tab.elems {es : Array (Int × Value)} {t : SetTable} {ks : List κ} (T : Tab knd w es t ks) : ElemsOf knd es.toList := fun e he => by
  obtain ⟨⟨ls, hp, _⟩, _⟩ := T
  obtain ⟨k, _, h1, h2, h3⟩ := paired_mem hp e he
  exact ⟨⟨k, h1, h2⟩, h3⟩
theorem Tab.mem {es : Array (Int × Value)} {t : SetTable} {ks : List κ} (T : Tab knd w es t ks) (k : κ) : (∃ e ∈ es.toList, knd.is k e.2 = true) ↔ k ∈ ks := by
  obtain ⟨⟨ls, hp, hpm⟩, _⟩ := T
  constructor
  · rintro ⟨e, he, h⟩
    obtain ⟨k', hk', h1, _⟩ := paired_mem hp e he
    rw [knd.inj _ _ _ h h1]
    exact hpm.mem_iff.mp hk'
  · intro h
    obtain ⟨e, he, h1, _⟩ := paired_memL hp k (hpm.mem_iff.mpr h)
    exact ⟨e, he, h1⟩
theorem Tab.size {es : Array (Int × Value)} {t : SetTable} {ks : List κ} (T : Tab knd w es t ks) : es.size = ks.length := by
  obtain ⟨⟨ls, hp, hpm⟩, _⟩ := T
  rw [← Array.length_toList, ← Paired.length hp, hpm.length_eq]
theorem SetG.setOf {h : Heap} {a : Addr} {ks : List κ} (R : SetG knd h a ks) : h.SetOf knd a (fun k => decide (k ∈ ks)) ks.length := by
  obtain ⟨o, es, ep, t, ho, hx, hd, T⟩ := R
  refine ⟨o, es, ep, t, ho, hx, hd, T.elems, fun k => ?_, T.2.2.1, T.2.2.2.1, T.size⟩
  rw [decide_eq_true_iff]
  exact (T.mem k).symm
theorem SetG.at {h h' : Heap} {a : Addr} {ks : List κ} (R : SetG knd h a ks) (k : ∀ o, h.get? a = some o → h'.get? a = some o) : SetG knd h' a ks := by
  obtain ⟨o, es, ep, t, ho, r⟩ := R
  exact ⟨o, es, ep, t, k o ho, r⟩
theorem SetG.fresh {h : Heap} : SetG knd (h.push { cls := .type "set", dict := none, data := .set #[] 0 (.fresh 0 0 (!w.params.followText "set-order")) }) h.objs.size [] := by
  refine ⟨_, #[], 0, _, Heap.get?_push_size _ rfl, ⟨rfl, rfl, rfl⟩, rfl, ⟨[], .nil, .nil⟩, List.nodup_nil, by decide, rfl, List.Pairwise.nil, ?_⟩
  cases q : w.params.followText "set-order" with
  | false => exact .inr (by show (!false) = true; rfl)
  | true => exact .inl rfl
end
section
variable {P : Program} {w : World} {κ : Type} [DecidableEq κ] {knd : PySem.KeyKind P w κ} {A : Around} {E : Value → Shared → Prop} {s : Shared} {a : Addr} {ks : List κ}
theorem put_there {h : Heap} {o : Obj} {es es' : Array (Int × Value)} {ep : Nat} {t t' : SetTable} (ho : h.get? a = some o) (hd : o.data = .set es ep t) :
    (h.update a (Obj.putSet es' t')).get? a = some { o with data := .set es' (ep + 1) t' } := by
  have e := Heap.get?_update_self (Obj.putSet es' t') ho (by rw [putSet_of es' t' hd]; rfl)
  rwa [putSet_of es' t' hd] at e
/-- what stands behind the new item's laying -/
theorem laid_tail {g : Bool → Sem Unit} (hg : ∀ (b : Bool) (s1 : Shared) (Q : Unit → Shared → Prop), Q () s1 → wpAny (model P w) A (g b) Q E s1) {o : Obj} {es es1 : Array (Int × Value)} {ep : Nat} {t t2 : SetTable} {ks' : List κ} {dm : Bool} {R : Option Bool → Shared → Prop} (ho : s.heap.get? a = some o) (hx : o.ExactSet) (hd : o.data = .set es ep t)
    (T : Tab knd w es1 t2 ks') (hR : ∀ h', Heap.SameBut a s.heap h' → SetG knd h' a ks' → R (some true) { s with heap := h' }) :
    wpAny (model P w) A (do
      storeSet a es1 t2
      if (!dm && t2.tooFull) = true then do
        g (relayAll t2 es1 (SetTable.grown es1.size)).2.2
        storeSet a (relayAll t2 es1 (SetTable.grown es1.size)).1 (relayAll t2 es1 (SetTable.grown es1.size)).2.1
        pure (some true)
      else pure (some true)) R E s := by
  refine wpAny_bind (wpAny_storeSet_of ho hd ?_ (fits_of_scanBound T.2.2.1))
  have o1 := put_there (es' := es1) (t' := t2) ho hd
  have b1 := Heap.SameBut.update s.heap a (Obj.putSet es1 t2)
  split
  · obtain ⟨⟨ls, hp, hpm⟩, nd, hb, hf, hr, hl⟩ := T
    have q1 := relayAll_perm t2 es1 (SetTable.grown es1.size)
    have q2 := relayAll_fits t2 es1 (SetTable.grown es1.size)
    have q3 := relayAll_ris t2 es1 (SetTable.grown es1.size)
    have q4 := relayAll_led t2 es1 (SetTable.grown es1.size)
    generalize relayAll t2 es1 (SetTable.grown es1.size) = z at q1 q2 q3 q4 ⊢
    obtain ⟨es2, t3, gv⟩ := z
    dsimp only at q1 q2 q3 q4 ⊢
    have sz : es2.size = es1.size := by rw [← Array.length_toList, ← Array.length_toList, q1.length_eq]
    refine wpAny_bind (hg _ _ _ (wpAny_bind (wpAny_storeSet_of o1 rfl (wpAny_pure (hR _ (b1.trans (Heap.SameBut.update _ a _)) ?_)) (fits_of_scanBound (by rw [sz]; exact hb)))))
    obtain ⟨ls', p', h'⟩ := paired_perm q1 hp
    exact ⟨_, es2, _, t3, put_there o1 rfl, hx, rfl, ⟨ls', h', p'.trans hpm⟩, nd, by rw [sz]; exact hb, q2, q3, hl.imp id fun z => by rw [q4]; exact z⟩
  · exact wpAny_pure (hR _ b1 ⟨_, es1, _, t2, o1, hx, rfl, T⟩)
theorem addG_hashed {k : κ} {x : Value} {Q : Bool → Shared → Prop} (hk : knd.is k x = true) (hsc : x.scannable = true) (R : SetG knd s.heap a ks) (room : ks.length + 1 < scanBound)
    (hQ : ∀ b h', Heap.SameBut a s.heap h' → SetG knd h' a (insG k ks) → Q b { s with heap := h' }) :
    wpAny (model P w) A (setAddHashed a x (knd.hash k)) Q E s := by
  obtain ⟨o, es, ep, t, ho, hx, hd, T⟩ := id R
  unfold setAddHashed setAddHashedIn
  refine wpAny_holding (wpAny_bind (wpAny_setState_of ho hd T.2.2.2.1 ?_))
  dsimp only
  rw [byScan_of hsc T.2.2.1 T.elems]
  simp only [↓reduceIte]
  unfold setAddByScan
  refine wpAny_bind (wpAny_bind (wpAny_rule (wpAny_bind (wpAny_setScan_of hk ho hd T.2.2.2.1 T.elems ?_))))
  cases hfi : List.findIdx? (fun e => knd.is k e.2) es.toList with
  | some j =>
    dsimp only
    obtain ⟨hj, pj, _⟩ := List.findIdx?_eq_some_iff_getElem.mp hfi
    have m : k ∈ ks := (T.mem k).mp ⟨_, List.getElem_mem hj, pj⟩
    refine wpAny_pure (wpAny_pure (hQ _ s.heap (Heap.SameBut.refl a s.heap) ?_))
    rw [insG, if_pos m]
    exact R
  | none =>
    dsimp only
    have m : k ∉ ks := fun z => by
      obtain ⟨e, he, q⟩ := (T.mem k).mpr z
      have c := List.findIdx?_eq_none_iff.mp hfi e he
      rw [q] at c
      cases c
    have hQ' : ∀ h', Heap.SameBut a s.heap h' → SetG knd h' a (k :: ks) → Q true { s with heap := h' } := fun h' sb g => hQ true h' sb (by rw [insG, if_neg m]; exact g)
    obtain ⟨⟨ls, hp, hpm⟩, nd, hb, hf, hr, hl⟩ := id T
    have q1 := layNew_perm t es (knd.hash k) x
    have q2 := layNew_fits t es (knd.hash k) x
    have q3 := layNew_ris t es (knd.hash k) x hr
    have q4 := layNew_led t es (knd.hash k) x
    generalize layNew t es (knd.hash k) x = z at q1 q2 q3 q4 ⊢
    obtain ⟨es1, t1, dm, gv⟩ := z
    dsimp only at q1 q2 q3 q4 ⊢
    rw [Array.toList_push] at q1
    obtain ⟨ls', p', h'⟩ := paired_perm q1 (paired_snoc hp (show Ent knd k (knd.hash k, x) from ⟨hk, rfl, hsc⟩))
    have p2 : ls'.Perm (k :: ks) := p'.trans ((List.perm_append_singleton _ _).trans (hpm.cons _))
    have sz : es1.size = ks.length + 1 := by
      rw [← Array.length_toList, q1.length_eq, List.length_append, Array.length_toList, T.size]
      rfl
    have T1 : ∀ t2 : SetTable, t2.fits es1.size = true → t2.place = t1.place → t2.led = t1.led → Tab knd w es1 t2 (k :: ks) := fun t2 f2 e1 e2 =>
      ⟨⟨ls', h', p2⟩, List.nodup_cons.mpr ⟨m, nd⟩, by rw [sz]; exact room, f2, by rw [e1]; exact q3, hl.imp id fun z => by rw [e2, q4]; exact z⟩
    have told : ∀ (b : Bool) {s1 : Shared} {Q1 : Unit → Shared → Prop}, Q1 () s1 → wpAny (model P w) A (match b with | true => rule "set.scan.the-table-gave-way" | false => pure ()) Q1 E s1 := fun b s1 Q1 q => by
      cases b
      · exact wpAny_pure q
      · exact wpAny_rule q
    refine wpAny_bind (told _ ?_)
    split
    · refine wpAny_bind ?_
      rw [hashByValue_scannable 8 hsc]
      refine wpAny_pure ?_
      refine laid_tail (by intro b s1 Q1 q; cases b <;> first | exact wpAny_pure q | exact wpAny_rule q) (knd := knd) (ks' := k :: ks) ho hx hd (T1 _ ?_ ?_ ?_) fun h' sb g => wpAny_pure (hQ' h' sb g)
      · split
        · exact q2
        · exact SetTable.fits_plain_off q2
      · split <;> rfl
      · split <;> rfl
    · refine wpAny_bind (wpAny_pure ?_)
      simp only [↓reduceIte]
      exact laid_tail (by intro b s1 Q1 q; cases b <;> first | exact wpAny_pure q | exact wpAny_rule q) (knd := knd) (ks' := k :: ks) ho hx hd (T1 _ q2 rfl rfl) fun h' sb g => wpAny_pure (hQ' h' sb g)
end

/-! ### as a tracked thing; add; the comprehension; sorted -/
def SetKo (P : Program) (w : World) (a : Addr) (ks : List Key) : HO := .ext fun h => SetG (mixKind P w) h a ks
theorem setKo_new {P : Program} {w : World} {H : Hp} {h : Heap} {a : Addr} {ks : List Key} (R : SetG (mixKind P w) h a ks) : ObjOk P w H h a (SetKo P w a ks) := by
  obtain ⟨o, es, ep, t, ho, _⟩ := id R
  exact ⟨R, ⟨o, ho⟩, fun _ _ p k => SetG.at p k⟩
section
variable {X : Cx} {pins : List (Addr × Obj)} {σ : L2.St} {H : Hp} {s : Shared}
theorem setKo_get {a : Addr} {ks : List Key} (I : L2.Inv X pins σ H s) (ha : H a = some (SetKo X.prog X.w a ks)) : SetG (mixKind X.prog X.w) s.heap a ks := (I.hok a _ ha).1
theorem kV_sc {k : Key} {u : Value} (r : RelV (kV k) u) : keyIs k u = true ∧ u.scannable = true := by
  cases k with
  | inl i =>
    obtain ⟨t, rfl⟩ := r
    exact ⟨keyIs_int i t, rfl⟩
  | inr x =>
    obtain ⟨t, rfl⟩ := r
    exact ⟨keyIs_str x t, rfl⟩
theorem addK_ok {E : Value → Shared → Prop} {D : Addr} {ks : List Key} {k : Key} {u : Value} {Q : Value → Shared → Prop} (I : L2.Inv X pins σ H s) (hD : H D = some (SetKo X.prog X.w D ks)) (r : RelV (kV k) u) (room : ks.length + 1 < scanBound)
    (h : ∀ s', L2.Inv X pins σ (upd H D (SetKo X.prog X.w D (insG k ks))) s' → Q .none s') : wpAny (model X.prog X.w) X.A (call (.builtin "set.add") [.ref D, u]) Q E s := by
  have R := setKo_get I hD
  obtain ⟨hk, hsc⟩ := kV_sc r
  refine wpAny_call_entry F.slot_set_add R.setOf.typeIs F.entry_set_add ?_ (F.args_set_add_2 _ _)
  unfold Builtin.«set.add» Builtin.Frozenset.oneOther
  simp only [List.isEmpty_nil, bind_assoc]
  unfold Builtin.Frozenset.addrOf setAdd
  refine wpAny_bind (wpAny_pure ?_)
  try dsimp only
  refine wpAny_bind (wpAny_pure ?_)
  try dsimp only
  refine wpAny_bind (wpAny_holding (wpAny_bind ((mixKind X.prog X.w).pyHash (k := k) hk ?_)))
  refine addG_hashed (knd := mixKind X.prog X.w) (s := { s with toks := s.toks + 1 }) hk hsc R room fun b h' sb new => ?_
  show wpAny _ _ (ret Value.none) _ _ _
  obtain ⟨o, _, _, _, ho, _⟩ := id new
  exact wpAny_pure ⟨_, rfl, h _ (I.write (e := D) (t' := s.toks + 1) (by rw [hD]; trivial) (.inl rfl) (fun b u hb hu => (sb.2 b hb).trans hu) ⟨o, ho⟩ (setKo_new new))⟩
end
section
variable {X : Cx}
def tScK (P : Program) (w : World) (wi : TI) (g : TG) (tt : TT) (te : TE) (vs : List Nat) : TE := fun σ H Q => wi σ H fun J H1 => ∀ D, H1 D = none → ∃ W : Nat → Nat → Hp → Prop, (∃ m, W 0 m (upd H1 D (SetKo P w D []))) ∧ ∀ i m H, W i m H →
  (J.stop i H ∧ Q (.ref D) H) ∨ (J.go i H ∧ ∃ Nx : Hp → Prop, (∀ H', Nx H' → ∃ m', m' < m ∧ W (i + 1) m' H') ∧ ∀ x H', J.yld i H x H' → g x (wipe σ vs) H' fun σ2 H2 => wipe σ2 vs = wipe σ vs ∧ tt σ2 H2 fun b H3 =>
    if b = true then te σ2 H3 fun y H4 => ∃ (k : Key) (ks : List Key), y = kV k ∧ H4 D = some (SetKo P w D ks) ∧ ks.length + 1 < scanBound ∧ Nx (upd H4 D (SetKo P w D (insG k ks))) else Nx H3)
theorem pe_scK {elt tg iter : Expr} {ifs : List Expr} {scope : Scope} {own : List (Str × Nat)} {pos : Pos} {wi : TI} {g : TG} {tt : TT} {te : TE} (hc : X.calm = true) (hN : X.N.Nodup) (hi : PI X tg iter wi) (ok : BlkOk X.N X.env.scope scope own)
    (hg : ∀ (s : Shared) (H : Hp) (C : Addr) (cl : List (Str × Addr)) (fp : List Addr), PG (X.blk s H scope (compEnvC scope cl C X.env) fp) tg g) (ht : ∀ (s : Shared) (H : Hp) (C : Addr) (cl : List (Str × Addr)) (fp : List Addr), PTs (X.blk s H scope (compEnvC scope cl C X.env) fp) ifs tt)
    (he : ∀ (s : Shared) (H : Hp) (C : Addr) (cl : List (Str × Addr)) (fp : List Addr), PE (X.blk s H scope (compEnvC scope cl C X.env) fp) elt te) (hs : ∀ x, foldedSetIterable iter X.env x = pure x := by intro _; rfl) :
    PE X (.SetComp elt [⟨tg, iter, ifs, 0⟩] scope pos) (tScK X.prog X.w wi g tt te (own.map (·.2))) := by
  refine ⟨fun pins s σ H Q I h => ?_⟩
  rw [PpSet.eval_SetComp]
  refine wpAny_comprehension_free (use := none) rfl hs (closure_ok fun y hy e => (ok.free y hy e).elim (fun k => I.ok.has _ (.inl k)) fun k => I.ok.has _ (.inr k)) ok.kind (fun y hy e => by rw [ok.uniq y hy, e])
    (thn (hi.run pins s σ H _ I h) fun xv s1 hx => thn hx fun itv s2 h2 => ?_)
  obtain ⟨it, fp, tn, J, H2, rfl, I2, T, st2, f2, q⟩ := h2
  refine PpSet.newSet_ok (newEnv_comp ?_)
  obtain ⟨W, ⟨m0, w0⟩, turn⟩ := q s2.heap.objs.size (I2.hok.fresh (Nat.le_refl _))
  have I3 : L2.Inv X pins σ (upd H2 s2.heap.objs.size (SetKo X.prog X.w s2.heap.objs.size [])) { s2 with heap := s2.heap.push { cls := .type "set", dict := none, data := .set #[] 0 (.fresh 0 0 (!X.w.params.followText "set-order")) } } :=
    I2.laid (t' := s2.toks) (fun b o e => Heap.get?_push_of_some _ e) (Nat.le_refl _) (setKo_new SetG.fresh)
  have lt2 : ∀ b ∈ fp, b < s2.heap.objs.size := fun b hb => let ⟨_, e, _⟩ := T.obj _ _ st2 b hb; Heap.lt_size e
  generalize hD : s2.heap.objs.size = D at I3 w0 turn lt2
  generalize hS : ({ s2 with heap := s2.heap.push { cls := .type "set", dict := none, data := .set #[] 0 (.fresh 0 0 (!X.w.params.followText "set-order")) } } : Shared) = s3 at I3
  have h3 : s3.heap = s2.heap.push { cls := .type "set", dict := none, data := .set #[] 0 (.fresh 0 0 (!X.w.params.followText "set-order")) } := by rw [← hS]
  have st3 : tn 0 s3.heap := T.keep _ _ _ st2 fun b _ o e => by rw [h3]; exact Heap.get?_push_of_some _ e
  generalize hH : upd H2 D (SetKo X.prog X.w D []) = H3 at I3 w0
  have f3 : ∀ b ∈ fp, FpOk X pins H3 b ∧ b < s3.heap.objs.size := fun b hb => by
    refine ⟨⟨?_, (f2 b hb).2⟩, by rw [h3, Heap.size_push, hD]; exact Nat.lt_succ_of_lt (lt2 b hb)⟩
    rw [← hH, upd_ne (Nat.ne_of_lt (lt2 b hb))]
    exact (f2 b hb).1
  have I4 := block_start I3 ok hN f3
  have pg := hg s3 H3 s3.heap.objs.size (cellsFrom (s3.heap.objs.size + 1) scope.names (cloFrom X.env.cells scope.names [])) fp
  have pt := ht s3 H3 s3.heap.objs.size (cellsFrom (s3.heap.objs.size + 1) scope.names (cloFrom X.env.cells scope.names [])) fp
  have pe := he s3 H3 s3.heap.objs.size (cellsFrom (s3.heap.objs.size + 1) scope.names (cloFrom X.env.cells scope.names [])) fp
  suffices goal : codeAny (model X.prog X.w) X.A (.compStart (.SetComp elt [⟨tg, iter, ifs, 0⟩] scope pos) 0 (.ref it) (.ref D) (compEnvC scope (cellsFrom (s3.heap.objs.size + 1) scope.names (cloFrom X.env.cells scope.names [])) s3.heap.objs.size X.env))
      (compPost (model X.prog X.w) X.A X.xe none (EP X pins σ Q) (.ref D) s3.heap.objs.size) { s3 with heap := pushCells (s3.heap.push { cls := .type "dict", data := .dict #[] }) scope.names } by
    subst hD
    subst hS
    exact goal
  generalize hce : compEnvC scope (cellsFrom (s3.heap.objs.size + 1) scope.names (cloFrom X.env.cells scope.names [])) s3.heap.objs.size X.env = ce at I4 pg pt pe ⊢
  have cL : ce.locals = s3.heap.objs.size := by subst hce; rfl
  generalize hs4 : ({ s3 with heap := pushCells (s3.heap.push { cls := .type "dict", data := .dict #[] }) scope.names } : Shared) = s4 at I4 ⊢
  have st4 : tn 0 s4.heap := T.keep _ _ _ st3 fun b _ o e => by rw [← hs4]; exact pushCells_keeps _ _ _ _ (Heap.get?_push_of_some _ e)
  have fpB : ∀ {σ' : L2.St} {H' : Hp} {s' : Shared}, L2.Inv (X.blk s3 H3 scope ce fp) [] σ' H' s' → (∀ b ∈ fp, H' b = none) → ∀ b ∈ fp, FpOk (X.blk s3 H3 scope ce fp) [] H' b := fun I' n b hb =>
    ⟨n b hb, (I'.ok.exf b hb).1, I'.ok.exfs b hb, .inl hb, fun x c e => (I'.ok.exf b hb).2 x c e, fun p hp => absurd (show p ∈ ([] : List (Addr × Obj)) ++ [] from hp) (by simp)⟩
  have round : codeAny (model X.prog X.w) X.A (.compLoop (.SetComp elt [⟨tg, iter, ifs, 0⟩] scope pos) 0 (.ref it) (.ref D) ce) (compPost (model X.prog X.w) X.A X.xe none (EP X pins σ Q) (.ref D) s3.heap.objs.size) s4 := by
    refine PpSet.compLoopS_any (fun n s' => ∃ i H', L2.Inv (X.blk s3 H3 scope ce fp) [] (wipe σ (own.map (·.2))) H' s' ∧ tn i s'.heap ∧ (∀ b ∈ fp, H' b = none) ∧ W i n H') ?_ m0 ⟨0, H3, I4, st4, fun b hb => (f3 b hb).1.1, w0⟩
    rintro n s5 ⟨i, H5, I5, st5, n5, w5⟩
    rcases turn i n H5 w5 with ⟨stop, q5⟩ | ⟨go, Nx, hNx, step⟩
    · refine thnF (T.done (X.blk s3 H3 scope ce fp) rfl rfl rfl hc i [] s5 _ H5 (fun _ _ => False) I5 (fpB I5 n5) st5 stop) fun r s6 ⟨hr, I6⟩ => ?_
      subst hr
      have I7 : L2.Inv X pins σ H5 s6 := I3.call' (ch := fp) I6.os I6.base I6.hok I6.bare fun b hb => ⟨(f3 b hb).1.2.2.2.1, (f3 b hb).1.2.1, (f3 b hb).1.2.2.2.2.1, (f3 b hb).1.2.2.2.2.2⟩
      have nC : H5 s3.heap.objs.size = none := by
        have z : H5 ce.locals = none := I6.free
        rwa [cL] at z
      obtain ⟨m, hn, _⟩ := I6.loc
      have hn' : s6.heap.Ns s3.heap.objs.size m := by
        rw [← cL]
        exact hn
      obtain ⟨f0, f1, g2, g3, g4, g5⟩ := I3.fpOk (b := s3.heap.objs.size) (Nat.le_refl _) nC
      exact ⟨m, hn', fun h'' sb => ⟨.ref D, H5, I7.turned (t' := s6.toks) (fun b o hb e => (sb.2 b hb).trans e) f0 f1 g3 g4 g5, rfl, q5⟩⟩
    · refine thnF (T.item (X.blk s3 H3 scope ce fp) rfl rfl rfl hc i [] s5 _ H5 (fun _ _ => False) I5 (fpB I5 n5) st5 go) fun r s6 ⟨u, hr, h6⟩ => ?_
      subst hr
      refine thnF h6 fun _ s7 ⟨x, H7, I7, r7, y7, st7, n7⟩ => ?_
      refine thnF (pg.run _ s7 _ H7 x u _ (I7.pinned (fpB I7 n7) (T.obj _ _ st7)) r7 (step x H7 y7)) fun _ s8 ⟨σ8, H8, I8, hw8, q8⟩ => ?_
      refine thnF (pt.run _ s8 σ8 H8 _ I8 q8) fun b s9 ⟨H9, I9, q9⟩ => ?_
      have turned : ∀ {s' : Shared} {H' : Hp}, L2.Inv (X.blk s3 H3 scope ce fp) ([] ++ pinsAt fp s7.heap) σ8 H' s' → Nx H' → ∃ m, m < n ∧ ∃ i H', L2.Inv (X.blk s3 H3 scope ce fp) [] (wipe σ (own.map (·.2))) H' s' ∧ tn i s'.heap ∧ (∀ b ∈ fp, H' b = none) ∧ W i m H' := fun {s' H'} I' nx => by
        obtain ⟨m', hm, w'⟩ := hNx H' nx
        have stay : ∀ b ∈ fp, ∀ o, s7.heap.get? b = some o → s'.heap.get? b = some o ∧ H' b = none := fun b hb o e => by
          obtain ⟨z1, z2, _⟩ := I'.pin (b, o) (List.mem_append_right _ (List.mem_append_right _ (mem_pinsAt hb e)))
          exact ⟨z1, z2⟩
        refine ⟨m', hm, i + 1, H', (I'.unpinned (pins := [])).weak (by rw [← hw8, wipe_length]) (fun j v e => ?_), T.keep _ _ _ st7 fun b hb o e => (stay b hb o e).1, fun b hb => ?_, w'⟩
        · rw [← hw8] at e
          exact (wipe_some e).1
        · obtain ⟨o, e, _⟩ := T.obj _ _ st7 b hb
          exact (stay b hb o e).2
      cases b with
      | false =>
        rw [if_neg Bool.false_ne_true] at q9
        rw [if_neg Bool.false_ne_true]
        exact turned I9 q9
      | true =>
        rw [if_pos rfl] at q9
        rw [if_pos rfl]
        refine thnF (pe.run _ s9 σ8 H9 _ I9 q9) fun z s10 ⟨yv, H10, I10, r10, kk, ks, ey, hD10, room, nx⟩ => ?_
        subst ey
        exact addK_ok (X := X.blk s3 H3 scope ce fp) I10 hD10 r10 room fun s11 I11 => turned I11 nx
  exact PpSet.codeAny_compStart_set round (T.self X.A 0 _ _ _ st4 round)
end
end WW

set_option Elab.async false
set_option linter.all false
set_option maxRecDepth 100000
set_option maxHeartbeats 4000000
namespace WW
open PySem PySem.Spec PyProof.Rows L2
/-! ### sorted of data: a list, a tuple, a set of texts -/
def leD (x y : V × PyData) : Bool := PySem.W.dataLe false (fun z : V × PyData => z.2) x y
def srtD (xs : List (V × PyData)) : List V := (xs.mergeSort (PySem.W.dataLe false fun z : V × PyData => z.2)).map (·.1)
section
variable {X : Cx} {pins : List (Addr × Obj)} {σ : L2.St} {H : Hp} {s : Shared}
theorem vals_each {R : Value → V × PyData → Prop} : ∀ {xs : List (V × PyData)} {vs : List Value}, Vals (xs.map (·.1)) vs → (∀ x u, x ∈ xs → RelV x.1 u → R u x) → PySem.W.EachIs R vs xs
  | [], _, h, _ => by cases h; exact .nil
  | x :: xs, _, h, f => by
    cases h with
    | cons r t => exact .cons (f x _ (by simp) r) (vals_each t fun y u hy => f y u (by simp [hy]))
theorem each_vals : ∀ {xs : List (V × PyData)} {vs : List Value}, PySem.W.EachIs (fun u (x : V × PyData) => RelV x.1 u) vs xs → Vals (xs.map (·.1)) vs
  | [], _, h => by cases h; exact .nil
  | x :: xs, _, h => by
    cases h with
    | cons r t => exact .cons r (each_vals t)
/-- what stands behind sorted's gathering of the items -/
theorem sort_tail {A : Around} {E : Value → Shared → Prop} {Q : VK} {xs : List (V × PyData)} {vs : List Value} (I : L2.Inv X pins σ H s) (r : Vals (xs.map (·.1)) vs) (hd : ∀ x ∈ xs, Dp X.K H x.1 x.2)
    (hal : PySem.W.AllAlike (xs.map (·.2))) (hso : PySem.W.Sortable (xs.map (·.2))) (hn : xs.length ≤ sizeLine) (hu : ∀ x ∈ xs, A.units + 1 + x.2.depth < cLine)
    (q : ∀ p, H p = none → Q (.ref p) (upd H p (.lst (srtD xs)))) :
    wpAny (model X.prog X.w) A (do
      let l ← newList vs
      let _ ← holding [l] (call (.builtin "list.sort") [l])
      ret l) (fun fin s' => ∃ v, fin = Fin.done (Flow.ret v) ∧ EP X pins σ Q v s') E s := by
  have hvl : vs.length = xs.length := by rw [← r.length, List.length_map]
  refine wpAny_bind (wpAny_newList ?_ (by rw [hvl]; exact hn))
  have hat : (s.heap.push (seqObj "list" vs.toArray 0)).get? s.heap.objs.size = some (seqObj "list" vs.toArray 0) := Heap.get?_push_size _ rfl
  have er : PySem.W.EachIs (fun v (b : V × PyData) => ∃ as, Reads (PySem.W.sortingHeap (s.heap.push (seqObj "list" vs.toArray 0)) s.heap.objs.size vs) v b.2 as) vs xs := vals_each r fun x u hx ru => by
    obtain ⟨as, hr⟩ := Dp.reads I x.2 x.1 u (hd x hx) ru
    exact ⟨as, PyProof.Rows.Reads.keeps (fun b o e => PySem.W.sortingHeap_old (Nat.ne_of_lt (Heap.lt_size e)) (Heap.get?_push_of_some _ e)) hr⟩
  have ev : PySem.W.EachIs (fun u (x : V × PyData) => RelV x.1 u) vs xs := vals_each r fun x u _ ru => ru
  show wpAny _ _ _ _ _ { s with heap := s.heap.push (seqObj "list" vs.toArray 0) }
  refine wpAny_bind (wpAny_holding (wpAny_call_entry slot_list_sort ⟨_, hat, rfl⟩ entry_list_sort
    (PySem.W.list_sort_vals (κ := PySem.W.dataKind (PySem.W.sortingHeap (s.heap.push (seqObj "list" vs.toArray 0)) s.heap.objs.size vs) (xs.map (·.2))) (s := { s with heap := s.heap.push (seqObj "list" vs.toArray 0) }) hat
      (PySem.W.SortsAt.data (PySem.W.each_map (fun b : V × PyData => b.2) er) hal hso (PySem.W.bound_map hu)) (by rw [hvl]; exact hn) ⟨_, rfl, ?_⟩) (args_list_sort _)))
  have eo := PySem.W.sortVals_data false ev er hal
  generalize PySem.W.sortVals (PySem.W.dataKind (PySem.W.sortingHeap (s.heap.push (seqObj "list" vs.toArray 0)) s.heap.objs.size vs) (xs.map (·.2))) false vs vs = out at eo ⊢
  have rv := each_vals eo
  obtain ⟨ep, ho⟩ := sortedHeap_at (vs := vs) (out := out.toArray) hat
  have hl : (srtD xs).length ≤ sizeLine := by
    unfold srtD
    rw [List.length_map, List.length_mergeSort]
    exact hn
  refine wpAny_pure ⟨_, rfl, .ref s.heap.objs.size, upd H s.heap.objs.size (.lst (srtD xs)), I.laid (t' := s.toks) (fun b u e => ?_) (Nat.le_refl _) ⟨hl, out, ep, rv, ho⟩, rfl, q _ (I.hok.fresh (Nat.le_refl _))⟩
  have hb := Heap.lt_size e
  rw [sortedHeap_old (Nat.ne_of_lt hb) (by rw [size_push']; exact Nat.lt_succ_of_lt hb)]
  exact Heap.get?_push_of_some _ e
/-- sorted(xs), xs a list or a tuple of data -/
def rSortedQ (K : PySem.W.Frag) : List V → Hp → VK → Prop := fun vs H Q => ∃ (a : Addr) (xs : List (V × PyData)), vs = [.ref a] ∧ (SqL K H a (xs.map (·.1)) ∨ SqT K H a (xs.map (·.1))) ∧ (∀ x ∈ xs, Dp K H x.1 x.2) ∧
  PySem.W.AllAlike (xs.map (·.2)) ∧ PySem.W.Sortable (xs.map (·.2)) ∧ (∀ x ∈ xs, x.2.depth ≤ 64) ∧ ∀ p, H p = none → Q (.ref p) (upd H p (.lst (srtD xs)))
theorem cr_sortedD (hu : X.A.units + 70 < cLine) : CallR X (.builtin "sorted") (rSortedQ X.K) := by
  intro pins s σ H us vs Q I r h
  obtain ⟨a, xs, rfl, hs, hd, hal, hso, hdp, q⟩ := h
  rw [Vals.ref1 r]
  have go : ∀ (its : List Value) (T : String) (o : Obj) (n : Nat), (T = "list" ∨ T = "tuple") → s.heap.get? a = some o → o.cls = .type T → o.data = .seq its.toArray n → Vals (xs.map (·.1)) its → (xs.map (·.1)).length ≤ sizeLine →
      wpAny (model X.prog X.w) X.A (call (.builtin "sorted") [.ref a]) (EP X pins σ Q) X.xe s := fun its T o n hT ho hc hdt rv hz => by
    rw [List.length_map] at hz
    refine Calls.call_function_entry kind_sorted plain_sorted entry_sorted (args_sorted1 _) ?_
    unfold Builtin.«sorted»
    refine wpAny_bind (m := checkCount "sorted" 1 1 _) (wpAny_pure ?_)
    refine wpAny_bind (wpAny_collect_seq a hT ho hc hdt (fun h' hk => ?_) (by rw [List.size_toArray, ← rv.length, List.length_map]; exact hz))
    have I1 : L2.Inv X pins σ H { s with heap := h' } := I.kept (t' := s.toks) hk
    refine sort_tail (A := X.A.in1) (Q := Q) I1 rv hd hal hso hz (fun x hx => ?_) q
    have h1 := hdp x hx
    show X.A.units + 1 + 1 + x.2.depth < cLine
    omega
  rcases hs with hs | hs
  · obtain ⟨its, rv, ⟨o, n, ho, hc, _, hdt⟩, hz⟩ := I.list hs
    exact go its "list" o n (.inl rfl) ho hc hdt rv hz
  · obtain ⟨its, rv, ⟨o, ho, hc, n, hdt⟩, hz⟩ := I.tuple hs
    exact go its "tuple" o n (.inr rfl) ho hc hdt rv hz
/-- sorted of a set of texts -/
def rSortedSt (P : Program) (w : World) : List V → Hp → VK → Prop := fun vs H Q => ∃ (a : Addr) (ks : List Str), vs = [.ref a] ∧ H a = some (SetKo P w a (ks.map Sum.inr)) ∧
  ∀ p (ys : List Str), ys.Perm ks → H p = none → Q (.ref p) (upd H p (.lst (srtD (ys.map fun z => (V.str z, PyData.str z)))))
theorem cr_sortedSt (hc : X.calm = true) (hu : X.A.units + 70 < cLine) : CallR X (.builtin "sorted") (rSortedSt X.prog X.w) := by
  intro pins s σ H us vs Q I r h
  obtain ⟨a, ks, rfl, ha, q⟩ := h
  rw [Vals.ref1 r]
  obtain ⟨o, es, ep, t, ho, hx, hd, T⟩ := setKo_get I ha
  refine Calls.call_function_entry kind_sorted plain_sorted entry_sorted (args_sorted1 _) ?_
  unfold Builtin.«sorted»
  refine wpAny_bind (m := checkCount "sorted" 1 1 _) (wpAny_pure ?_)
  refine wpAny_bind (collect_set (A := X.A.in1) (show X.A.in1.handled = none from I.ok.hd hc) ⟨o, ho, hx.1, hd⟩ T.2.2.2.1 T.2.2.1 T.2.2.2.2.1 T.2.2.2.2.2 fun s1 out hk hsz hg hos hp => ?_)
  obtain ⟨ys, py, ry⟩ : ∃ ys : List Str, ys.Perm ks ∧ Vals (ys.map V.str) out := by
    obtain ⟨ls, pl, pk⟩ := T.1
    have p1 : Paired (fun (k : Key) (u : Value) => RelV (kV k) u) ls (es.toList.map (·.2)) := by
      clear pk
      generalize es.toList = el at pl
      clear hp
      induction pl with
      | nil => exact .nil
      | cons r t ih =>
        refine .cons ?_ ih
        obtain ⟨r1, _⟩ := r
        rcases keyIs_shape r1 with ⟨i, t, rfl, e⟩ | ⟨x, t, rfl, e⟩
        · exact ⟨t, e⟩
        · exact ⟨t, e⟩
    obtain ⟨l2, p2, h2⟩ := paired_perm hp p1
    have p3 : l2.Perm (ks.map Sum.inr) := p2.trans pk
    clear p1 p2 pl pk hp
    have hall : ∀ k ∈ l2, ∃ z, k = Sum.inr z := fun k hk => by
      obtain ⟨z, _, e⟩ := List.mem_map.mp (p3.mem_iff.mp hk)
      exact ⟨z, e.symm⟩
    have hz : ∃ ys : List Str, l2 = ys.map Sum.inr := by
      clear h2 p3
      induction l2 with
      | nil => exact ⟨[], rfl⟩
      | cons k l ih =>
        obtain ⟨z, rfl⟩ := hall k (by simp)
        obtain ⟨ys, rfl⟩ := ih fun k hk => hall k (by simp [hk])
        exact ⟨z :: ys, rfl⟩
    obtain ⟨ys, rfl⟩ := hz
    have p4 := p3.map fun (k : Key) => match k with
      | .inr z => z
      | .inl _ => Str.empty
    rw [List.map_map, List.map_map] at p4
    have e4 : ∀ l : List Str, l.map ((fun (k : Key) => match k with
      | .inr z => z
      | .inl _ => Str.empty) ∘ Sum.inr) = l := fun l => by
      induction l with
      | nil => rfl
      | cons x r ih =>
        rw [List.map_cons, ih]
        rfl
    rw [e4, e4] at p4
    refine ⟨ys, p4, ?_⟩
    clear p3 hall p4
    induction ys generalizing out with
    | nil => cases h2; exact .nil
    | cons y ys ih =>
      cases h2 with
      | cons r t => exact .cons r (ih _ t)
  have I1 : L2.Inv X pins σ H s1 := by
    obtain ⟨h1, g1, d1, t1, o1⟩ := s1
    have e1 : g1 = s.gens := hg
    have e2 : o1 = s.os := hos
    subst e1 e2
    exact I.call' (ch := []) rfl (Un.kept hk) (I.hok.kept hk) I.bare (fun _ z => nomatch z)
  have em : (ys.map fun z => (V.str z, PyData.str z)).map (·.1) = ys.map V.str := by rw [List.map_map]; rfl
  have e2 : (ys.map fun z => (V.str z, PyData.str z)).map (·.2) = ys.map PyData.str := by rw [List.map_map]; rfl
  refine sort_tail (A := X.A.in1) (Q := Q) (xs := ys.map fun z => (V.str z, PyData.str z)) I1 (by rw [em]; exact ry) ?_ ?_ ?_ ?_ ?_ (fun p hp => q p ys py hp)
  · intro x hx
    obtain ⟨z, _, rfl⟩ := List.mem_map.mp hx
    exact .str z
  · rw [e2]
    exact PySem.W.AllAlike.of fun b b' => rfl
  · rw [e2]
    exact PySem.W.Sortable.others fun b => ⟨(fun e => by cases e), (fun xs e => by cases e)⟩
  · rw [List.length_map, py.length_eq]
    have h1 := T.size
    have h2 := T.2.2.1
    rw [h1, List.length_map] at h2
    exact fits_of_scanBound h2
  · intro x hx
    obtain ⟨z, _, rfl⟩ := List.mem_map.mp hx
    show X.A.units + 1 + 1 + PyData.depth (.str z) < cLine
    have : PyData.depth (.str z) ≤ 1 := by simp [PyData.depth]
    omega
end
end WW

set_option Elab.async false
set_option linter.all false
set_option maxRecDepth 100000
set_option maxHeartbeats 4000000
namespace WW
open PySem PySem.Spec PyProof.Rows L2
/-! ### set(row), the row's items keys of one kind -/
def insAll {κ : Type} [DecidableEq κ] (l : List κ) : List κ := l.foldl (fun acc k => insG k acc) []
theorem paired_getR {α β : Type} {R : α → β → Prop} : ∀ {ls : List α} {l : List β} {i : Nat} {y : β}, Paired R ls l → l[i]? = some y → ∃ x, ls[i]? = some x ∧ R x y
  | _, _, _, _, .nil, e => by simp at e
  | _, _, 0, _, .cons r _, e => by simp at e; subst e; exact ⟨_, rfl, r⟩
  | _, _, i + 1, y, .cons _ t, e => by
    obtain ⟨u, h1, h2⟩ := paired_getR (i := i) (y := y) t (by simpa using e)
    exact ⟨u, by simpa using h1, h2⟩
theorem insAll_snoc {κ : Type} [DecidableEq κ] (l : List κ) (k : κ) : insAll (l ++ [k]) = insG k (insAll l) := by
  unfold insAll
  rw [List.foldl_append]
  rfl
theorem insG_mem {κ : Type} [DecidableEq κ] (k x : κ) (l : List κ) : x ∈ insG k l ↔ x = k ∨ x ∈ l := by
  unfold insG
  split
  · rename_i h
    constructor
    · exact .inr
    · rintro (rfl | h')
      · exact h
      · exact h'
  · rw [List.mem_cons]
theorem insG_nodup {κ : Type} [DecidableEq κ] {k : κ} {l : List κ} (h : l.Nodup) : (insG k l).Nodup := by
  unfold insG
  split
  · exact h
  · rename_i hk
    exact List.nodup_cons.mpr ⟨hk, h⟩
theorem insG_len {κ : Type} [DecidableEq κ] (k : κ) (l : List κ) : (insG k l).length ≤ l.length + 1 := by
  unfold insG
  split
  · omega
  · rw [List.length_cons]
    omega
theorem fold_mem {κ : Type} [DecidableEq κ] (x : κ) : ∀ (l acc : List κ), x ∈ l.foldl (fun acc k => insG k acc) acc ↔ x ∈ l ∨ x ∈ acc
  | [], acc => by simp
  | k :: r, acc => by
    rw [List.foldl_cons, fold_mem x r, insG_mem, List.mem_cons]
    constructor
    · rintro (h | h | h)
      · exact .inl (.inr h)
      · exact .inl (.inl h)
      · exact .inr h
    · rintro ((h | h) | h)
      · exact .inr (.inl h)
      · exact .inl h
      · exact .inr (.inr h)
theorem fold_nodup {κ : Type} [DecidableEq κ] : ∀ (l acc : List κ), acc.Nodup → (l.foldl (fun acc k => insG k acc) acc).Nodup
  | [], _, h => h
  | _ :: r, _, h => fold_nodup r _ (insG_nodup h)
theorem fold_len {κ : Type} [DecidableEq κ] : ∀ (l acc : List κ), (l.foldl (fun acc k => insG k acc) acc).length ≤ acc.length + l.length
  | [], acc => by simp
  | k :: r, acc => by
    have h1 := fold_len r (insG k acc)
    have h2 := insG_len k acc
    rw [List.foldl_cons, List.length_cons]
    omega
theorem insAll_mem {κ : Type} [DecidableEq κ] (x : κ) (l : List κ) : x ∈ insAll l ↔ x ∈ l := by
  unfold insAll
  rw [fold_mem]
  simp
theorem insAll_nodup {κ : Type} [DecidableEq κ] (l : List κ) : (insAll l).Nodup := fold_nodup l [] List.nodup_nil
theorem insAll_len {κ : Type} [DecidableEq κ] (l : List κ) : (insAll l).length ≤ l.length := by
  have := fold_len l []
  simpa [insAll] using this
section
variable {P : Program} {w : World} {κ : Type} [DecidableEq κ] {knd : PySem.KeyKind P w κ} {A : Around} {E : Value → Shared → Prop} {s : Shared}
theorem upd_keys {I : Addr} {fp wr : List Addr} {G : Array GenState → Array GenState → Prop} {n : Nat} {Pv : Nat → Value → Prop} {St : Nat → Shared → Prop} {R : Result → Shared → Prop}
    (W : WalksS P w A.in1 I fp wr G n Pv St) (S : Addr) (hSf : S ∉ fp) (ks : List κ) (hn : n = ks.length) (hfew : ks.length + 1 < scanBound) (hval : ∀ i v, Pv i v → ∃ k, ks[i]? = some k ∧ knd.is k v = true ∧ v.scannable = true)
    (h0 : Heap) (hS0 : h0.get? S = none) (hw0 : ∀ b ∈ wr, h0.get? b = none) :
    ∀ (k i : Nat) (s : Shared), n - i = k → i ≤ n → St i s → (∀ b o, h0.get? b = some o → s.heap.get? b = some o) → SetG knd s.heap S (insAll (ks.take i)) →
      (∀ s', Moved (S :: wr) G s s' → SetG knd s'.heap S (insAll ks) → (∀ b o, h0.get? b = some o → s'.heap.get? b = some o) → R (.ok (.ret .none)) s') →
      codeAny (model P w) A (.builtin "set.update.loop" ⟨[.ref S, .ref I], []⟩) R s := by
  have hSw : S ∉ wr := fun h => hSf (W.sub _ h)
  have hsub : ∀ b ∈ wr, b ∈ S :: wr := fun b hb => List.mem_cons_of_mem _ hb
  have keepM : ∀ {s s' : Shared}, Moved wr G s s' → (∀ b o, h0.get? b = some o → s.heap.get? b = some o) → ∀ b o, h0.get? b = some o → s'.heap.get? b = some o := fun hm hkp b o e =>
    hm.heap b o (fun hb => by rw [hw0 b hb] at e; cases e) (hkp b o e)
  intro k
  induction k with
  | zero =>
    intro i s hk' hi hst hkp hS hR
    have hin : i = n := by omega
    subst hin
    refine codeAny_builtin F.entry_set_update_loop ?_
    rw [Around.under_plainId F.plain_set_update_loop _]
    show wpAny _ A.in1 (pyNext (.ref I) >>= _) _ _ s
    refine wpAny_bind (W.done s _ _ hst fun s' hm => ?_)
    show wpAny _ A.in1 (ret Value.none) _ _ s'
    rw [hn, List.take_length] at hS
    exact wpAny_pure (hR s' (hm.mono hsub) (hS.at fun o e => hm.heap S o hSw e) (keepM hm hkp))
  | succ k ih =>
    intro i s hk' hi hst hkp hS hR
    have hlt : i < n := by omega
    refine codeAny_builtin F.entry_set_update_loop ?_
    rw [Around.under_plainId F.plain_set_update_loop _]
    show wpAny _ A.in1 (pyNext (.ref I) >>= _) _ _ s
    refine wpAny_bind (W.item i s _ _ hlt hst fun v s' hP hst' hm => ?_)
    obtain ⟨ky, hky, his, hsc⟩ := hval i v hP
    have hkp' := keepM hm hkp
    have hS' : SetG knd s'.heap S (insAll (ks.take i)) := hS.at fun o e => hm.heap S o hSw e
    have hroom : (insAll (ks.take i)).length + 1 < scanBound := by
      have h1 := insAll_len (ks.take i)
      rw [List.length_take] at h1
      omega
    show wpAny _ A.in1 (holding [v] (setAdd S v) >>= _) _ _ s'
    refine wpAny_bind (wpAny_holding ?_)
    unfold setAdd
    refine wpAny_holding ?_
    refine wpAny_bind (knd.pyHash (k := ky) his ?_)
    refine addG_hashed (knd := knd) (s := { s' with toks := s'.toks + 1 }) his hsc hS' hroom fun b h' hsb hS2 => ?_
    have e2 : insG ky (insAll (ks.take i)) = insAll (ks.take (i + 1)) := by
      rw [← insAll_snoc, List.take_add_one, hky]
      rfl
    rw [e2] at hS2
    have hkp2 : ∀ b o, h0.get? b = some o → h'.get? b = some o := fun b o e => (hsb.2 b (fun z => by rw [z, hS0] at e; cases e)).trans (hkp' b o e)
    refine wpAny_pure ⟨plainId_quiet F.plain_set_update_loop _, ih (i + 1) _ (by omega) hlt (W.frame _ s' _ _ hst' (Nat.le_add_right _ _) fun b hb o e => ?_) hkp2 hS2 fun s'' hm'' hS'' hkp'' => ?_⟩
    · rw [hsb.2 b (fun h : b = S => hSf (by rw [← h]; exact hb))]
      exact e
    · refine hR s'' (Moved.trans W.gtrans ((hm.mono hsub).then_heap (Nat.le_add_right _ _) fun b o hb e => ?_) hm'') hS'' hkp''
      rw [hsb.2 b (fun h : b = S => hb (by rw [h]; exact List.mem_cons_self))]
      exact e
theorem call_setG {l : Addr} {items : Array Value} (ks : List κ) {Q : Value → Shared → Prop} (hh : A.handled = none) (hl : s.heap.IsList l items) (hit : Paired (fun k (v : Value) => knd.is k v = true ∧ v.scannable = true) ks items.toList) (hfew : ks.length + 1 < scanBound)
    (h : ∀ (h' : Heap) (tk : Nat), SetG knd h' s.heap.objs.size (insAll ks) → (∀ b o, s.heap.get? b = some o → h'.get? b = some o) → Q (.ref s.heap.objs.size) { s with heap := h', toks := tk }) :
    wpAny (model P w) A (call (.type "set") [.ref l]) Q E s := by
  have hisz : items.size = ks.length := by
    have q := Paired.length hit
    rw [Array.length_toList] at q
    exact q.symm
  obtain ⟨c, tl, hmro⟩ := F.called_set.mro
  have hmade := F.called_set.made
  have hsub := F.called_set.sub
  refine wpAny_call (codeAny_of_tree ?_)
  show wpAny _ _ (callAny (.type "set") _) _ _ _
  refine wpAny_pure ⟨Code.quiet_builtin _ (by decide +kernel), codeAny_builtin F.entry_type_call ?_⟩
  rw [Around.under_plain (weight_type_call_type "set" [.ref l] []) rfl]
  have h1 := F.called_set.notType
  have h2 := F.called_set.canCreate
  have hct := F.typeCall_set_1 (.ref l)
  repeat (any_goals (first | assumption | wp_step))
  refine codeAny_mono (code_set_led1 (.ref l) (E := E) (Q₁ := fun obj s₁ => obj = .ref s.heap.objs.size ∧ s₁ = { s with heap := s.heap.push { cls := .type "set", dict := none, data := .set #[] 0 (.fresh 0 0 (!w.params.followText "set-order")) } }) ⟨rfl, rfl⟩) fun r s₁ hr => ?_
  cases r with
  | error e => exact hr
  | ok fl =>
    cases fl with
    | ret obj =>
      obtain ⟨rfl, rfl⟩ := hr
      have fr0 : SetG knd (s.heap.push { cls := .type "set", dict := none, data := .set #[] 0 (.fresh 0 0 (!w.params.followText "set-order")) }) s.heap.objs.size [] := SetG.fresh
      have hS : (s.heap.push { cls := .type "set", dict := none, data := .set #[] 0 (.fresh 0 0 (!w.params.followText "set-order")) }).get? s.heap.objs.size = some { cls := .type "set", dict := none, data := .set #[] 0 (.fresh 0 0 (!w.params.followText "set-order")) } := Heap.get?_push_size _ rfl
      have hT : Shared.TypeIs { s with heap := s.heap.push { cls := .type "set", dict := none, data := .set #[] 0 (.fresh 0 0 (!w.params.followText "set-order")) } } (.ref s.heap.objs.size) "set" := ⟨_, hS, rfl⟩
      have hli := F.called_set.init.lookup
      have hbi := F.called_set.init.bind (.ref s.heap.objs.size)
      repeat (any_goals (first | assumption | wp_step))
      refine codeAny_mono (codeAny_call_builtin (R := wants (fun r s₂ => r = .none ∧ ∃ h' tk, s₂ = { s with heap := h', toks := tk } ∧ SetG knd h' s.heap.objs.size (insAll ks) ∧
          (∀ b o, s.heap.get? b = some o → h'.get? b = some o)) E) F.called_set.init.plain F.entry_set_init (check_set_init_1 hT ?_)) fun r₂ s₂ hr₂ => ?_
      · obtain ⟨ol, hol, hcl, nl, hdl⟩ := hl
        obtain ⟨ocls, odict, odata, oslots⟩ := ol
        simp only at hcl hdl
        subst hcl; subst hdl
        have hol' : (s.heap.push { cls := .type "set", dict := none, data := .set #[] 0 (.fresh 0 0 (!w.params.followText "set-order")) }).get? l = some { cls := .type "list", dict := odict, data := .seq items nl, slots := oslots } := Heap.get?_push_of_some _ hol
        have hsls := F.sub_list_set
        have hslf := F.sub_list_frozenset
        have hne : (Value.type "list" == Value.type "dict") = false := by decide
        have hl1 : (s.heap.push { cls := .type "set", dict := none, data := .set #[] 0 (.fresh 0 0 (!w.params.followText "set-order")) }).IsList l items := ⟨_, hol', rfl, nl, rfl⟩
        unfold Builtin.«set.__init__» noKeywords Builtin.Frozenset.updateFrom
        generalize hPI : pyIter = PI
        wp_walk
        subst hPI
        refine wpAny_pyIter_list hl1 ?_
        refine wpAny_bind (wpAny_runValue ?_)
        have hlS : l < s.heap.objs.size := Heap.lt_size hol
        have hh3 : A.in1.in1.in1.handled = none := by simp [hh]
        have hz1 : (s.heap.push { cls := .type "set", dict := none, data := .set #[] 0 (.fresh 0 0 (!w.params.followText "set-order")) }).objs.size = s.heap.objs.size + 1 := Heap.size_push ..
        have hneI : l ≠ (s.heap.push { cls := .type "set", dict := none, data := .set #[] 0 (.fresh 0 0 (!w.params.followText "set-order")) }).objs.size := by
          rw [Heap.size_push]
          exact Nat.ne_of_lt (Nat.lt_succ_of_lt hlS)
        have hSf : s.heap.objs.size ∉ [(s.heap.push { cls := .type "set", dict := none, data := .set #[] 0 (.fresh 0 0 (!w.params.followText "set-order")) }).objs.size, l] := by
          rw [Heap.size_push]
          simp only [List.mem_cons, List.mem_singleton, List.not_mem_nil, or_false, not_or]
          exact ⟨Nat.ne_of_lt (Nat.lt_succ_self _), Nat.ne_of_gt hlS⟩
        have hval : ∀ (i : Nat) (v : Value), items[i]? = some v → ∃ k, ks[i]? = some k ∧ knd.is k v = true ∧ v.scannable = true := fun i v hv => by
          have q : items.toList[i]? = some v := by rw [Array.getElem?_toList]; exact hv
          exact paired_getR (R := fun k (v : Value) => knd.is k v = true ∧ v.scannable = true) hit q
        have none_of : ∀ b, s.heap.objs.size ≤ b → s.heap.get? b = none := fun b hb => by
          cases q : s.heap.get? b with
          | none => rfl
          | some o => exact absurd (Nat.lt_of_lt_of_le (Heap.lt_size q) hb) (Nat.lt_irrefl _)
        refine upd_keys (knd := knd) ((Walks.list hh3 _ l hneI items).toS) s.heap.objs.size
          hSf ks hisz hfew hval s.heap (none_of _ (Nat.le_refl _)) (fun b hb => none_of b (by
            rw [List.mem_singleton.mp hb, Heap.size_push]
            exact Nat.le_succ _)) (items.size - 0) 0 _ (by omega) (Nat.zero_le _)
          ⟨⟨_, Heap.get?_push_size _ rfl, rfl, rfl⟩, (hl1.push _)⟩ (fun b o e => Heap.get?_push_of_some _ (Heap.get?_push_of_some _ e)) (fr0.at fun o e => Heap.get?_push_of_some _ e) ?hR
        intro s' hm hS' hkp
        obtain ⟨h', g2, d', tk', os'⟩ := s'
        have eg : g2 = s.gens := hm.gens
        have ed : d' = s.drawn := hm.drawn
        have eo : os' = s.os := hm.os
        subst eg; subst ed; subst eo
        show wpAny _ _ _ _ _ _
        refine wpAny_pure ?_
        show wpAny _ _ (ret Value.none) _ _ _
        exact wpAny_pure ⟨rfl, h', tk', rfl, hS', hkp⟩
      · cases r₂ with
        | error e => exact hr₂
        | ok fl₂ =>
          cases fl₂ with
          | ret r =>
            obtain ⟨rfl, h', tk, rfl, hS', hk'⟩ := hr₂
            repeat (any_goals (first | assumption | wp_step))
            exact h h' _ hS' hk'
          | _ => exact hr₂.elim
    | _ => exact hr.elim
end
/-- set(row of texts) -/
def rSetOfS (K : PySem.W.Frag) (P : Program) (w : World) : List V → Hp → VK → Prop := fun xs H Q => ∃ (l : Addr) (zs : List Str), xs = [.ref l] ∧ SqL K H l (zs.map V.str) ∧ zs.length ≤ 100 ∧ ∀ a, H a = none → Q (.ref a) (upd H a (SetKo P w a ((insAll zs).map Sum.inr)))
theorem insG_map (z : Str) (l : List Str) : insG (Sum.inr z : Key) (l.map Sum.inr) = (insG z l).map Sum.inr := by
  unfold insG
  by_cases h : z ∈ l
  · rw [if_pos h, if_pos (List.mem_map.mpr ⟨z, h, rfl⟩)]
  · rw [if_neg h, if_neg (fun m => by
      obtain ⟨y, hy, e⟩ := List.mem_map.mp m
      cases e
      exact h hy)]
    rfl
theorem insAll_map (zs : List Str) : insAll (zs.map (Sum.inr : Str → Key)) = (insAll zs).map Sum.inr := by
  have key : ∀ (l acc : List Str), (l.map (Sum.inr : Str → Key)).foldl (fun acc k => insG k acc) (acc.map Sum.inr) = (l.foldl (fun acc k => insG k acc) acc).map Sum.inr := by
    intro l
    induction l with
    | nil => intro acc; rfl
    | cons z r ih =>
      intro acc
      rw [List.map_cons, List.foldl_cons, List.foldl_cons, insG_map, ih]
  exact key zs []
section
variable {X : Cx}
theorem cr_setOfS (hc : X.calm = true) : CallR X (.type "set") (rSetOfS X.K X.prog X.w) := by
  intro pins s σ H xs us Q I r h
  obtain ⟨l, zs, rfl, hl, hz, q⟩ := h
  rw [Vals.ref1 r]
  obtain ⟨its, rv, pl, hsz⟩ := I.list hl
  have hn : H s.heap.objs.size = none := I.hok.fresh (Nat.le_refl _)
  refine call_setG (knd := mixKind X.prog X.w) (zs.map Sum.inr) (I.ok.hd hc) pl.isList ?_ (by rw [List.length_map]; exact Nat.lt_of_le_of_lt (Nat.succ_le_succ hz) (by decide)) fun h' tk R k => ?_
  · rw [List.toList_toArray]
    clear hl hsz pl q r hz
    induction zs generalizing its with
    | nil =>
      cases rv
      exact .nil
    | cons z r ih =>
      cases rv with
      | cons h1 h2 => exact .cons (kV_sc (k := .inr z) h1) (ih _ h2)
  · rw [insAll_map] at R
    exact ⟨.ref s.heap.objs.size, _, I.laid (t' := tk) k (Nat.le_refl _) (setKo_new R), rfl, q _ hn⟩
end
end WW

set_option Elab.async false
set_option linter.all false
set_option maxRecDepth 100000
set_option maxHeartbeats 4000000
namespace WW
open PySem PySem.Spec PyProof.Rows L2
/-! ### == and != by the text's own __eq__ -/
section
variable {prog : Program} {w : World} {A : Around} {E : Value → Shared → Prop} {s : Shared} {K : PySem.W.Frag} {x y C f : Addr} {ox oy : Obj} {od ody : Option Obj}
theorem ne_body {Q : PySem.Fin → Shared → Prop} (hu : A.units < cLine) (X : K.In s.heap) (I : PySem.W.InstAt s.heap x ox C od) (heq : PySem.W.findIn K (.ref C) "__eq__" = some (some (.ref f))) (hf : PySem.W.isFn K (.ref f) = true)
    (h : wpAny (model prog w) A (call (.ref f) [.ref x, .ref y]) (fun v s' => ∃ b, v = .bool b ∧ Q (.done (.ret (.bool (!b)))) s') E s) :
    wpAny (model prog w) A (Builtin.«object.__ne__» ⟨[.ref x, .ref y], []⟩) Q E s := by
  unfold Builtin.«object.__ne__»
  refine wpAny_bind (wpAny_of_eq (show slotArgs "__ne__" 1 ⟨[.ref x, .ref y], []⟩ = pure (Value.ref x, [Value.ref y]) from rfl) ?_)
  show wpAny (model prog w) A (cRoomFor "comparison" [.ref x, .ref y] >>= _) Q E s
  refine wpAny_bind (wpAny_cRoomFor hu ?_)
  refine wpAny_bind (PySem.W.ifBound_K X I heq hf (wpAny_mono h (fun v s' hv => ?_) fun _ _ e => e))
  obtain ⟨b, rfl, q⟩ := hv
  exact wpAny_bind (wpAny_truthy_bool (wpAny_pure q))
theorem ne_K {Q : Value → Shared → Prop} (hu : A.units + 1 < cLine) (X : K.In s.heap) (I : PySem.W.InstAt s.heap x ox C od) (J : PySem.W.InstAt s.heap y oy C ody) (hne : PySem.W.findIn K (.ref C) "__ne__" = some (some (.builtin "object.__ne__")))
    (hsub : PySem.W.subIn K (.ref C) (.type "object") = some true) (heq : PySem.W.findIn K (.ref C) "__eq__" = some (some (.ref f))) (hf : PySem.W.isFn K (.ref f) = true)
    (h : wpAny (model prog w) A.in1 (call (.ref f) [.ref x, .ref y]) (fun v s' => ∃ b, v = .bool b ∧ Q (.bool (!b)) s') E s) :
    wpAny (model prog w) A (compareOp .NotEq (.ref x) (.ref y)) Q E s := by
  have one : wpAny (model prog w) A (tryCompare (.ref x) "__ne__" (.ref y)) (fun r s' => ∃ b, r = some (.bool (!b)) ∧ Q (.bool (!b)) s') E s := by
    unfold tryCompare
    refine wpAny_bind ?_
    simp only [callSpecialIfBound?, bindSpecialIfBound?]
    refine wpAny_holding (wpAny_bind (wpAny_bind (wpAny_bind (I.type.here ((PySem.W.looks_findIn X hne).here ?_)))))
    have fin : wpAny (model prog w) A (call (.builtin "object.__ne__") ([.ref x] ++ [.ref y]) >>= fun v => pure (some v)) (fun r s' => wpAny (model prog w) A (match r with
        | some Value.notImplemented => pure none
        | none => pure none
        | some v => pure (some v)) (fun r s' => ∃ b, r = some (.bool (!b)) ∧ Q (.bool (!b)) s') E s') E s := by
      refine wpAny_bind (wpAny_call (codeAny_call_builtin PySem.F.cmp_object.ne.plain PySem.F.cmpEntry_ne (PySem.W.check_slot PySem.F.cmpKind_ne PySem.F.cmpSplit_ne (I.type.andThen (PySem.W.looks_subIn X hsub)) (PySem.F.cmpArgs_ne _ _) (ne_body (A := A.in1) hu X I heq hf (wpAny_mono h (fun v s' hv => ?_) fun _ _ e => e)))))
      obtain ⟨b, rfl, q⟩ := hv
      exact ⟨b, rfl, wpAny_pure (wpAny_pure ⟨b, rfl, q⟩)⟩
    simp only [PySem.F.cmp_object.ne.bind]
    refine wpAny_bind (wpAny_askSetting (wpAny_ite ?_))
    split
    · exact wpAny_bind (wpAny_pure (wpAny_pure fin))
    · exact wpAny_tryCatch (wpAny_bind (wpAny_pure (wpAny_pure fin)))
  unfold compareOp richCompare
  simp only [PySem.oneThing_ref]
  refine wpAny_holding (wpAny_bind (wpAny_cRoomFor (Nat.lt_of_succ_lt hu) ?_))
  refine wpAny_bind (I.type.here (wpAny_bind (J.type.here ?_)))
  rw [show (Value.ref C != Value.ref C) = false from by simp]
  simp only [Bool.false_eq_true, if_false]
  refine wpAny_bind (wpAny_pure ?_)
  simp only [Bool.false_eq_true, if_false]
  refine wpAny_bind (wpAny_mono one (fun r s' z => ?_) fun _ _ e => e)
  obtain ⟨b, rfl, q⟩ := z
  exact wpAny_pure q
end

/-- a class with its own __eq__ and the plain != -/
structure EqC (K : PySem.W.Frag) (C f : Addr) : Prop where
  eq : PySem.W.findIn K (.ref C) "__eq__" = some (some (.ref f))
  ne : PySem.W.findIn K (.ref C) "__ne__" = some (some (.builtin "object.__ne__"))
  fn : PySem.W.isFn K (.ref f) = true
  sub : PySem.W.subIn K (.ref C) (.type "object") = some true
section
variable {X : Cx} {n : Nat} {C f : Addr} {fd : FuncData} {ps : List Str} {sp : Sp}
def rEqO (C : Addr) (sp : Sp) : R2 := fun x y H Q => ∃ a b dx dy fs gs, x = .ref a ∧ y = .ref b ∧ H a = some (.ins C dx fs) ∧ H b = some (.ins C dy gs) ∧ sp [.ref a, .ref b] H Q E0
def rNeO (C : Addr) (sp : Sp) : R2 := fun x y H Q => ∃ a b dx dy fs gs, x = .ref a ∧ y = .ref b ∧ H a = some (.ins C dx fs) ∧ H b = some (.ins C dy gs) ∧ sp [.ref a, .ref b] H (fun v H' => ∃ c, v = .bl c ∧ Q (.bl (!c)) H') E0
theorem run2 {pins : List (Addr × Obj)} {σ : L2.St} {H : Hp} {s : Shared} {A : Around} {Q : VK} {a b : Addr} {E : Value → Shared → Prop} (F : FnOk X.prog X.w X.K X.mg X.base CX0 n f fd ps sp) (hb : Binds X.K fd ps []) (I : L2.Inv X pins σ H s) (hr : Room n A) (hfr : A.frames = X.A.frames)
    (h : sp [.ref a, .ref b] H Q E0) : wpAny (model X.prog X.w) A (call (.ref f) [.ref a, .ref b]) (EP X pins σ Q) E s := by
  have e0 : Env0 X.prog X.w X.K X.mg X.base A X.stack s H := by
    have e := I.env0
    exact ⟨by rw [hfr]; exact e.frames, e.mod, e.bs, e.bsz, e.funs, e.frf, e.hok, e.bare⟩
  have hl := F.len _ _ _ _ h
  have r2 : Vals [V.ref a, V.ref b] [Value.ref a, Value.ref b] := .cons rfl (.cons rfl .nil)
  refine wpAny_call (codeAny_mono (F.run A X.stack s H ⟨[.ref a, .ref b], []⟩ [.ref a, .ref b] [.ref a, .ref b] Q E0 hr e0 (by
    have := hb s [.ref a, .ref b] I.kIn (by simpa using hl)
    simpa using this) r2 h) fun r s' hq => ?_)
  cases r with
  | error e => exact False.elim hq
  | ok fl =>
    cases fl with
    | ret w =>
      obtain ⟨z, H', I', rz, q⟩ := I.after hq
      exact ⟨z, H', I', rz, q⟩
    | next => exact False.elim hq
    | brk => exact False.elim hq
    | cont => exact False.elim hq
theorem op_eqO (c : EqC X.K C f) (F : FnOk X.prog X.w X.K X.mg X.base CX0 n f fd ps sp) (hb : Binds X.K fd ps []) (hr : Room n X.A) : OpR X (compareOp .Eq) (rEqO C sp) := by
  intro pins s σ H x y v u Q I rx ry h
  obtain ⟨a, b, dx, dy, fs, gs, rfl, rfl, ha, hb', q⟩ := h
  cases rx
  cases ry
  obtain ⟨mA, J, _⟩ := ins_get I.hok ha
  obtain ⟨mB, J', _⟩ := ins_get I.hok hb'
  obtain ⟨od, J, _⟩ := J.look
  obtain ⟨od', J', _⟩ := J'.look
  obtain ⟨m, hF⟩ := I.fr
  show wpAny (model X.prog X.w) X.A (richCompare .Eq (.ref a) (.ref b)) _ _ _
  refine PySem.W.cmp_K (op := .Eq) (tb := .ref C) hr.units0 hF I.ok.mod.kin J J'.type (by simp [PySem.W.notFirst]) c.eq c.fn (wpAny_mono (run2 F hb I hr rfl q) (fun z s' hz => ?_) fun _ _ e => e)
  obtain ⟨z', H', I', rz, q'⟩ := id hz
  cases z' with
  | non => cases (show z = Value.none from rz); exact hz
  | bl c => cases (show z = Value.bool c from rz); exact hz
  | int i => obtain ⟨t, e⟩ := (show ∃ t, z = Value.int i t from rz); cases e; exact hz
  | str i => obtain ⟨t, e⟩ := (show ∃ t, z = Value.str i t from rz); cases e; exact hz
  | byt i => obtain ⟨t, e⟩ := (show ∃ t, z = Value.bytes i t from rz); cases e; exact hz
  | flt i => obtain ⟨t, e⟩ := (show ∃ t, z = Value.float i t from rz); cases e; exact hz
  | ref i => cases (show z = Value.ref i from rz); exact hz
  | ty i => cases (show z = Value.type i from rz); exact hz
theorem op_neO (c : EqC X.K C f) (F : FnOk X.prog X.w X.K X.mg X.base CX0 n f fd ps sp) (hb : Binds X.K fd ps []) (hr : Room (n + 1) X.A) : OpR X (compareOp .NotEq) (rNeO C sp) := by
  intro pins s σ H x y v u Q I rx ry h
  obtain ⟨a, b, dx, dy, fs, gs, rfl, rfl, ha, hb', q⟩ := h
  cases rx
  cases ry
  obtain ⟨mA, J, _⟩ := ins_get I.hok ha
  obtain ⟨mB, J', _⟩ := ins_get I.hok hb'
  obtain ⟨od, J, _⟩ := J.look
  obtain ⟨od', J', _⟩ := J'.look
  refine ne_K (by have := hr.un; omega) I.kIn J J' c.ne c.sub c.eq c.fn (wpAny_mono (run2 (A := X.A.in1) F hb I hr.in1 rfl q) (fun z s' hz => ?_) fun _ _ e => e)
  obtain ⟨z', H', I', rz, cc, rfl, q'⟩ := hz
  cases (show z = Value.bool cc from rz)
  exact ⟨cc, rfl, .bl (!cc), H', I', rfl, q'⟩
end
end WW

set_option Elab.async false
set_option linter.all false
set_option maxRecDepth 100000
set_option maxHeartbeats 4000000
namespace WW
open PySem PySem.Spec PyProof.Rows L2
/-! ### plain values and their kinds -/
def kinds : List String := ["NoneType", "bool", "int", "str", "list", "tuple", "dict"]
def Kd (K : PySem.W.Frag) (H : Hp) (x : V) (n : String) : Prop := TyX K H x (.type n) ∧ n ∈ kinds ∧ ∀ z, x = .str z → z.length ≤ sizeLine
theorem kit_int {K : PySem.W.Frag} {n : String} (h : n ∈ kinds) : PySem.W.kitOne K (.type n) (.type "int") = some (n == "int" || n == "bool") := by
  have : ∀ n ∈ kinds, kitB n "int" = some (n == "int" || n == "bool") := by decide +kernel
  exact kit_ty (this n h)
theorem kit_bool {K : PySem.W.Frag} {n : String} (h : n ∈ kinds) : PySem.W.kitOne K (.type n) (.type "bool") = some (n == "bool") := by
  have : ∀ n ∈ kinds, kitB n "bool" = some (n == "bool") := by decide +kernel
  exact kit_ty (this n h)
theorem kit_str {K : PySem.W.Frag} {n : String} (h : n ∈ kinds) : PySem.W.kitOne K (.type n) (.type "str") = some (n == "str") := by
  have : ∀ n ∈ kinds, kitB n "str" = some (n == "str") := by decide +kernel
  exact kit_ty (this n h)
theorem kit_list {K : PySem.W.Frag} {n : String} (h : n ∈ kinds) : PySem.W.kitOne K (.type n) (.type "list") = some (n == "list") := by
  have : ∀ n ∈ kinds, kitB n "list" = some (n == "list") := by decide +kernel
  exact kit_ty (this n h)
theorem kit_tuple {K : PySem.W.Frag} {n : String} (h : n ∈ kinds) : PySem.W.kitOne K (.type n) (.type "tuple") = some (n == "tuple") := by
  have : ∀ n ∈ kinds, kitB n "tuple" = some (n == "tuple") := by decide +kernel
  exact kit_ty (this n h)
theorem kit_row {K : PySem.W.Frag} {n : String} (h : n ∈ kinds) : PySem.W.kitAny K (.type n) [.type "list", .type "tuple"] = some (n == "list" || n == "tuple") := by
  refine kitAny_cons (kit_list h) (fun e => ?_) (fun e => by rw [e]; rfl)
  rw [e, Bool.false_or]
  refine kitAny_cons (kit_tuple h) (fun e2 => by rw [e2]; exact kitAny_nil) (fun e2 => e2)
theorem kd_int (K : PySem.W.Frag) (H : Hp) (i : Int) : Kd K H (.int i) "int" := ⟨.base (.int i), by decide, fun z e => by cases e⟩
theorem kd_str (K : PySem.W.Frag) (H : Hp) {z : Str} (h : z.length ≤ sizeLine) : Kd K H (.str z) "str" := ⟨.base (.str z), by decide, fun y e => by cases e; exact h⟩
theorem kd_tup (K : PySem.W.Frag) {H : Hp} {a : Addr} {xs : List V} (h : H a = some (.tup xs)) : Kd K H (.ref a) "tuple" := ⟨.base (.tup h), by decide, fun y e => by cases e⟩
theorem kd_lst (K : PySem.W.Frag) {H : Hp} {a : Addr} {xs : List V} (h : H a = some (.lst xs)) : Kd K H (.ref a) "list" := ⟨.base (.lst h), by decide, fun y e => by cases e⟩
theorem kd_is_int {K : PySem.W.Frag} {H : Hp} {x : V} (h : Kd K H x "int") : ∃ i, x = .int i := by
  obtain ⟨h, _⟩ := h
  generalize e : Value.type "int" = t at h
  cases h with
  | base b => cases b <;> first | exact ⟨_, rfl⟩ | exact absurd (Value.type.inj e) (by decide) | cases e
  | byt b => exact absurd (Value.type.inj e) (by decide)
  | set _ => exact absurd (Value.type.inj e) (by decide)
  | kList _ _ => exact absurd (Value.type.inj e) (by decide)
  | kTuple _ _ => exact absurd (Value.type.inj e) (by decide)
  | kDict _ _ => exact absurd (Value.type.inj e) (by decide)
  | fTuple _ => exact absurd (Value.type.inj e) (by decide)
  | fDict _ => exact absurd (Value.type.inj e) (by decide)
theorem kd_not_int {K : PySem.W.Frag} {H : Hp} {x : V} {n : String} (h : Kd K H x n) (hn : n ≠ "int") : ∀ i, x ≠ .int i := by
  rintro i rfl
  obtain ⟨h, _⟩ := h
  generalize e : Value.type n = t at h
  cases h with
  | base b =>
    cases b
    cases e
    exact hn rfl
theorem kd_is_str {K : PySem.W.Frag} {H : Hp} {x : V} (h : Kd K H x "str") : ∃ z, x = .str z := by
  obtain ⟨h, _⟩ := h
  generalize e : Value.type "str" = t at h
  cases h with
  | base b => cases b <;> first | exact ⟨_, rfl⟩ | exact absurd (Value.type.inj e) (by decide) | cases e
  | byt b => exact absurd (Value.type.inj e) (by decide)
  | set _ => exact absurd (Value.type.inj e) (by decide)
  | kList _ _ => exact absurd (Value.type.inj e) (by decide)
  | kTuple _ _ => exact absurd (Value.type.inj e) (by decide)
  | kDict _ _ => exact absurd (Value.type.inj e) (by decide)
  | fTuple _ => exact absurd (Value.type.inj e) (by decide)
  | fDict _ => exact absurd (Value.type.inj e) (by decide)
theorem kd_not_str {K : PySem.W.Frag} {H : Hp} {x : V} {n : String} (h : Kd K H x n) (hn : n ≠ "str") : ∀ z, x ≠ .str z := by
  rintro i rfl
  obtain ⟨h, _⟩ := h
  generalize e : Value.type n = t at h
  cases h with
  | base b =>
    cases b
    cases e
    exact hn rfl
def btw (lo hi : Int) : V → Bool
  | .int i => decide (lo ≤ i) && decide (i ≤ hi)
  | _ => false
def nmB (z : Str) : Bool := decide (1 ≤ z.length) && decide (z.length ≤ 10) && z.cps.toList.all fun c => decide (c ∈ smallS.cps.toList)
def isNm : V → Bool
  | .str z => nmB z
  | _ => false
structure Cst (mg : Str → Option Value) : Prop where
  small : ∃ t, mg "SMALL" = some (.str smallS t)
section
variable {P : Program} {w : World} {K : PySem.W.Frag} {mg : Str → Option Value} {base : Heap} {f fA : Addr} {fd fdA : FuncData}
abbrev sIs_integer : Stmt := topS 3
abbrev nIs_integer : List Str := ["thing"]
theorem scIs_integer : FnScope nIs_integer ["thing"] (defScope sIs_integer) := ⟨rfl, rfl, rfl, by decide +kernel, rfl, by decide +kernel, by decide +kernel⟩
def spIsInteger (K : PySem.W.Frag) : Sp := fun vs H Q _ => ∃ (x : V) (n : String), vs = [x] ∧ Kd K H x n ∧ Q (.bl (n == "int")) H
theorem ok_is_integer (D : Df K mg "is_integer" sIs_integer ["thing"] f fd) (T : Bl mg) : FnOk P w K mg base CX0 1 f fd ["thing"] (spIsInteger K) := by
  refine D.fn.ok scIs_integer (fun vs H Q E h => ?_) (fun cdv A outer s H vs Q E hr h => ?_)
  · obtain ⟨x, n, rfl, _⟩ := h
    rfl
  · obtain ⟨x, n, rfl, hk, q⟩ := h
    refine ⟨_, (pss_one (ps_ret (pe_and (pe_callB call_isi (by rfl) T.isinstance (by decide +kernel) (pa_cons (pv 0) (pa_cons (pe_bltn (v := .ty "int") (by rfl) T.int (by decide +kernel) rfl) pa_nil))) (pe_one (pe_not (pe_callB call_isi (by rfl) T.isinstance (by decide +kernel) (pa_cons (pv 0) (pa_cons (pe_bltn (v := .ty "bool") (by rfl) T.bool (by decide +kernel) rfl) pa_nil)))))))), ?_⟩
    refine ⟨_, rfl, _, _, _, _, _, rfl, .ty "int", hk.1, kit_int hk.2.1, _, rfl, ?_⟩
    refine ite2 (fun c => ?_) (fun c => ?_)
    · refine ⟨_, rfl, _, _, _, _, _, rfl, .ty "bool", hk.1, kit_bool hk.2.1, _, rfl, ?_⟩
      have e : (!(n == "bool")) = (n == "int") := by
        rcases Bool.or_eq_true_iff.mp c with h | h
        · rw [beq_iff_eq.mp h]
          decide
        · rw [beq_iff_eq.mp h]
          decide
      show Q (.bl (!(n == "bool"))) H
      rw [e]
      exact q
    · have e : (n == "int") = false := by
        cases h : n == "int" with
        | false => rfl
        | true => exact absurd (by rw [h]; rfl) c
      show Q (.bl false) H
      rw [← e]
      exact q
abbrev sIs_between : Stmt := topS 4
abbrev nIs_between : List Str := ["thing", "low", "high"]
theorem scIs_between : FnScope nIs_between ["thing", "low", "high"] (defScope sIs_between) := ⟨rfl, rfl, rfl, by decide +kernel, rfl, by decide +kernel, by decide +kernel⟩
def spIsBetween (K : PySem.W.Frag) : Sp := fun vs H Q _ => ∃ (x : V) (n : String) (lo hi : Int), vs = [x, .int lo, .int hi] ∧ Kd K H x n ∧ Q (.bl (btw lo hi x)) H
theorem ok_is_between {fB : Addr} {fdB : FuncData} (D : Df K mg "is_between" sIs_between ["thing", "low", "high"] f fd) (DIs_integer : Df K mg "is_integer" sIs_integer ["thing"] fB fdB) (T : Bl mg) : FnOk P w K mg base CX0 2 f fd ["thing", "low", "high"] (spIsBetween K) := by
  have GIs_integer : FnOk P w K mg base CX0 1 fB fdB ["thing"] (spIsInteger K) := ok_is_integer DIs_integer T
  refine D.fn.ok scIs_between (fun vs H Q E h => ?_) (fun cdv A outer s H vs Q E hr h => ?_)
  · obtain ⟨x, n, lo, hi, rfl, _⟩ := h
    rfl
  · obtain ⟨x, n, lo, hi, rfl, hk, q⟩ := h
    refine ⟨_, (pss_one (ps_ret (pe_and (pe_df DIs_integer GIs_integer (hr.mono (by decide)) (pa_cons (pv 0) pa_nil)) (pe_one (pe_chain op_le op_le (pv 1) (pv 0) (pv 2)))))), ?_⟩
    refine ⟨_, rfl, x, n, rfl, hk, _, rfl, ite2 (fun c => ?_) (fun c => ?_)⟩
    · have en : n = "int" := beq_iff_eq.mp c
      subst en
      obtain ⟨i, rfl⟩ := kd_is_int hk
      refine ⟨_, rfl, _, rfl, _, _, rfl, rfl, _, rfl, ?_⟩
      by_cases h1 : lo ≤ i
      · rw [decide_eq_true h1]
        refine ⟨_, rfl, _, _, rfl, rfl, ?_⟩
        have e : btw lo hi (.int i) = decide (i ≤ hi) := by
          show (decide (lo ≤ i) && decide (i ≤ hi)) = _
          rw [decide_eq_true h1]
          rfl
        rw [e] at q
        exact q
      · rw [decide_eq_false h1]
        have e : btw lo hi (.int i) = false := by
          show (decide (lo ≤ i) && decide (i ≤ hi)) = _
          rw [decide_eq_false h1]
          rfl
        rw [e] at q
        exact q
    · have e : btw lo hi x = false := by
        have hn := kd_not_int hk (fun z => c (by rw [z]; rfl))
        cases x with
        | int i => exact absurd rfl (hn i)
        | _ => rfl
      rw [e] at q
      exact q
abbrev sIs_state : Stmt := topS 5
abbrev nIs_state : List Str := ["thing"]
theorem scIs_state : FnScope nIs_state ["thing"] (defScope sIs_state) := ⟨rfl, rfl, rfl, by decide +kernel, rfl, by decide +kernel, by decide +kernel⟩
def spIsState (K : PySem.W.Frag) : Sp := fun vs H Q _ => ∃ (x : V) (n : String), vs = [x] ∧ Kd K H x n ∧ Q (.bl (btw 0 99 x)) H
theorem ok_is_state {fB fC : Addr} {fdB fdC : FuncData} (D : Df K mg "is_state" sIs_state ["thing"] f fd) (DIs_between : Df K mg "is_between" sIs_between ["thing", "low", "high"] fC fdC) (DIs_integer : Df K mg "is_integer" sIs_integer ["thing"] fB fdB) (T : Bl mg) : FnOk P w K mg base CX0 3 f fd ["thing"] (spIsState K) := by
  have GIs_between : FnOk P w K mg base CX0 2 fC fdC ["thing", "low", "high"] (spIsBetween K) := ok_is_between DIs_between DIs_integer T
  refine D.fn.ok scIs_state (fun vs H Q E h => ?_) (fun cdv A outer s H vs Q E hr h => ?_)
  · obtain ⟨x, n, rfl, _⟩ := h
    rfl
  · obtain ⟨x, n, rfl, hk, q⟩ := h
    refine ⟨_, (pss_one (ps_ret (pe_df DIs_between GIs_between (hr.mono (by decide)) (pa_cons (pv 0) (pa_cons pe_int (pa_cons pe_int pa_nil)))))), ?_⟩
    exact ⟨_, rfl, x, n, 0, 99, rfl, hk, q⟩
abbrev sIs_row : Stmt := topS 7
abbrev nIs_row : List Str := ["thing"]
theorem scIs_row : FnScope nIs_row ["thing"] (defScope sIs_row) := ⟨rfl, rfl, rfl, by decide +kernel, rfl, by decide +kernel, by decide +kernel⟩
def spIsRow (K : PySem.W.Frag) : Sp := fun vs H Q _ => ∃ (x : V) (n : String), vs = [x] ∧ Kd K H x n ∧ ∀ H', Same H H' → Q (.bl (n == "list" || n == "tuple")) H'
theorem tyx_mono {K : PySem.W.Frag} {H H' : Hp} {x : V} {t : Value} (s : Same H H') (h : TyX K H x t) : TyX K H' x t := by
  cases h with
  | base b =>
    cases b with
    | non => exact .base .non
    | bl x => exact .base (.bl x)
    | int x => exact .base (.int x)
    | str x => exact .base (.str x)
    | flt x => exact .base (.flt x)
    | lst e => exact .base (.lst (s _ _ e))
    | frz e => exact .base (.frz (s _ _ e))
    | tup e => exact .base (.tup (s _ _ e))
    | dK e => exact .base (.dK (s _ _ e))
    | dT e => exact .base (.dT (s _ _ e))
    | ins e cl ha hn htk hm => exact .base (.ins (s _ _ e) cl ha hn htk hm)
  | byt b => exact .byt b
  | set e => exact .set (s _ _ e)
  | kList e c => exact .kList e c
  | kTuple e c => exact .kTuple e c
  | kDict e c => exact .kDict e c
  | fTuple e => exact .fTuple (s _ _ e)
  | fDict e => exact .fDict (s _ _ e)
theorem Kd.mono {K : PySem.W.Frag} {H H' : Hp} {x : V} {n : String} (s : Same H H') (h : Kd K H x n) : Kd K H' x n := ⟨tyx_mono s h.1, h.2⟩
theorem ok_is_row (D : Df K mg "is_row" sIs_row ["thing"] f fd) (T : Bl mg) : FnOk P w K mg base CX0 1 f fd ["thing"] (spIsRow K) := by
  refine D.fn.ok scIs_row (fun vs H Q E h => ?_) (fun cdv A outer s H vs Q E hr h => ?_)
  · obtain ⟨x, n, rfl, _⟩ := h
    rfl
  · obtain ⟨x, n, rfl, hk, q⟩ := h
    refine ⟨_, (pss_one (ps_ret (pe_callB call_isiT (by rfl) T.isinstance (by decide +kernel) (pa_cons (pv 0) (pa_cons (pe_tup (pa_cons (pe_bltn (v := .ty "list") (by rfl) T.list (by decide +kernel) rfl) (pa_cons (pe_bltn (v := .ty "tuple") (by rfl) T.tuple (by decide +kernel) rfl) pa_nil))) pa_nil))))), ?_⟩
    refine ⟨_, rfl, by show 2 ≤ sizeLine; decide, fun t ht => ?_⟩
    refine ⟨x, t, _, _, [.type "list", .type "tuple"], _, rfl, upd_same, .cons (.ty "list") (.cons (.ty "tuple") .nil), tyx_mono (same_upd ht) hk.1, kit_row hk.2.1, q _ (same_upd ht)⟩
abbrev sIs_name : Stmt := topS 6
abbrev nIs_name : List Str := ["thing", "letter"]
theorem scIs_name : FnScope nIs_name ["thing"] (defScope sIs_name) := ⟨rfl, rfl, rfl, by decide +kernel, rfl, by decide +kernel, by decide +kernel⟩
def spIsName (K : PySem.W.Frag) : Sp := fun vs H Q _ => ∃ (x : V) (n : String), vs = [x] ∧ Kd K H x n ∧ ∀ H', Same H H' → Q (.bl (isNm x)) H'
def inSm (v : V) : Option V := match v with
  | .str ⟨#[c]⟩ => some (.bl (decide (c ∈ smallS.cps.toList)))
  | _ => none
theorem inSm_signs (z : Str) : (signs z).filterMap inSm = (z.cps.toList.map fun c => decide (c ∈ smallS.cps.toList)).map V.bl := by
  unfold signs
  induction z.cps.toList with
  | nil => rfl
  | cons c r ih =>
    simp only [List.map_cons, List.filterMap_cons]
    rw [ih]
    rfl
theorem ok_is_name (D : Df K mg "is_name" sIs_name ["thing"] f fd) (T : Bl mg) (C : Cst mg) : FnOk P w K mg base CX0 1 f fd ["thing"] (spIsName K) := by
  obtain ⟨tsm, hsm⟩ := C.small
  refine D.fn.ok scIs_name (fun vs H Q E h => ?_) (fun cdv A outer s H vs Q E hr h => ?_)
  · obtain ⟨x, n, rfl, _⟩ := h
    rfl
  · obtain ⟨x, n, rfl, hk, q⟩ := h
    refine ⟨_, (pss_cons (ps_if (PW.pt (pw_or (pt_not (pt_val (pe_callB call_isi (by rfl) T.isinstance (by decide +kernel) (pa_cons (pv 0) (pa_cons (pe_bltn (v := .ty "str") (by rfl) T.str (by decide +kernel) rfl) pa_nil))))) (pw_or1 (pt_not (pt_chain op_le op_le pe_int (pe_callB call_len (by rfl) T.len (by decide +kernel) (pa_cons (pv 0) pa_nil)) pe_int))))) (pss_one (ps_ret pe_bl)) pss_nil)
      (pss_one (ps_ret (pe_callB (cr_all rfl) (by rfl) T.all (by decide +kernel) (pa_cons (pe_lc (own := [("letter", 1)]) rfl scIs_name.nd (pi_str (pv 0)) (blkOk_by (own := [("letter", 1)]) (N := nIs_name) (sc := defScope sIs_name) (by decide +kernel)) (fun _ _ _ _ _ => (pg_name (i := 1) scIs_name.nd rfl (Or.inl rfl))) (fun _ _ _ _ _ => pts_nil) (fun _ _ _ _ _ => (pe_cmpR op_in_sign (pv 1) (pe_glob (v := .str smallS) (by rfl) hsm ⟨_, rfl⟩) (by rfl)))) pa_nil))))), ?_⟩
    refine ⟨_, rfl, _, _, _, _, _, rfl, .ty "str", hk.1, kit_str hk.2.1, _, rfl, ?_⟩
    by_cases en : n = "str"
    · subst en
      obtain ⟨z, rfl⟩ := kd_is_str hk
      have hl := hk.2.2 z rfl
      refine ⟨_, rfl, _, _, rfl, ⟨hl, rfl⟩, _, _, rfl, rfl, _, rfl, ?_⟩
      have e0 : isNm (.str z) = (decide (1 ≤ z.length) && decide (z.length ≤ 10) && z.cps.toList.all fun c => decide (c ∈ smallS.cps.toList)) := rfl
      by_cases h1 : (1 : Int) ≤ (z.length : Int)
      · rw [decide_eq_true h1]
        refine ⟨_, _, rfl, rfl, _, rfl, ?_⟩
        by_cases h2 : (z.length : Int) ≤ 10
        · rw [decide_eq_true h2]
          refine ⟨_, rfl, z, rfl, fun D1 hD1 => lc_pureS inSm (by omega) (fun _ => rfl) (fun y H2 hy s2 Q2 q2 => ?_) hD1 (fun H2 s2 h2' => ?_)⟩
          · obtain ⟨c, hc, rfl⟩ := List.mem_map.mp hy
            exact ⟨_, rfl, c, smallS, rfl, rfl, q2 H2 (Same.refl _)⟩
          · rw [inSm_signs] at h2'
            refine ⟨D1, _, rfl, SqL.of h2', ?_⟩
            rw [e0, decide_eq_true (show 1 ≤ z.length by omega), decide_eq_true (show z.length ≤ 10 by omega)] at q
            have := q H2 s2
            rw [List.all_map]
            exact this
        · rw [decide_eq_false h2]
          rw [e0, decide_eq_false (show ¬ z.length ≤ 10 by omega), Bool.and_false] at q
          exact q H (Same.refl _)
      · rw [decide_eq_false h1]
        rw [e0, decide_eq_false (show ¬ 1 ≤ z.length by omega)] at q
        exact ⟨_, rfl, q H (Same.refl _)⟩
    · have e1 : (n == "str") = false := beq_eq_false_iff_ne.mpr en
      have e2 : isNm x = false := by
        have hn := kd_not_str hk en
        cases x with
        | str z => exact absurd rfl (hn z)
        | _ => rfl
      rw [e1]
      rw [e2] at q
      exact q H (Same.refl _)
end
end WW

set_option Elab.async false
set_option linter.all false
set_option maxRecDepth 100000
set_option maxHeartbeats 4000000
namespace WW
open PySem PySem.Spec PyProof.Rows L2
/-! ### steps -/
abbrev Stp := Int × Str × Int
def StpOk (t : Stp) : Prop := (0 ≤ t.1 ∧ t.1 ≤ 99) ∧ NameOk t.2.1 ∧ (0 ≤ t.2.2 ∧ t.2.2 ≤ 99)
def stpV (t : Stp) : List V := [.int t.1, .str t.2.1, .int t.2.2]
/-- v is the tuple of the step t -/
def IsStp (H : Hp) (v : V) (t : Stp) : Prop := ∃ a, v = .ref a ∧ H a = some (.tup (stpV t))
theorem IsStp.mono {H H' : Hp} {v : V} {t : Stp} (s : Same H H') (h : IsStp H v t) : IsStp H' v t := by
  obtain ⟨a, e, h⟩ := h
  exact ⟨a, e, s _ _ h⟩
def encS (t : Stp) : PyData := .tuple [.int t.1, .str t.2.1, .int t.2.2]
theorem IsStp.dp {K : PySem.W.Frag} {H : Hp} {v : V} {t : Stp} (h : IsStp H v t) : Dp K H v (encS t) := by
  obtain ⟨a, rfl, h⟩ := h
  exact .tup (SqT.of h) (.cons (.int _) (.cons (.str _) (.cons (.int _) .nil)))
abbrev Stps (H : Hp) : List V → List Stp → Prop := Paired (IsStp H)
theorem Stps.mono {H H' : Hp} (s : Same H H') {xs : List V} {ts : List Stp} (h : Stps H xs ts) : Stps H' xs ts := L2.Paired.mapP h fun _ _ q => q.mono s
theorem paired_get {α β : Type} {R : α → β → Prop} : ∀ {xs : List α} {ts : List β} {i : Nat} {x : α}, Paired R xs ts → xs[i]? = some x → ∃ t, ts[i]? = some t ∧ R x t
  | _, _, _, _, .nil, e => by simp at e
  | _, _, 0, _, .cons r _, e => by simp at e; subst e; exact ⟨_, rfl, r⟩
  | _, _, i + 1, x, .cons _ t, e => by
    obtain ⟨u, h1, h2⟩ := paired_get (i := i) (x := x) t (by simpa using e)
    exact ⟨u, by simpa using h1, h2⟩
theorem Stps.take {H : Hp} : ∀ (i : Nat) {xs : List V} {ts : List Stp}, Stps H xs ts → Stps H (xs.take i) (ts.take i)
  | 0, _, _, _ => .nil
  | _ + 1, _, _, .nil => .nil
  | i + 1, _, _, .cons r t => .cons r (Stps.take i t)
theorem Stps.dpAll {K : PySem.W.Frag} {H : Hp} : ∀ {xs : List V} {ts : List Stp}, Stps H xs ts → DpAll K H xs (ts.map encS)
  | _, _, .nil => .nil
  | _, _, .cons r t => .cons r.dp (Stps.dpAll t)
theorem encS_eqv (t u : Stp) : PyData.eqv (encS t) (encS u) = decide (t = u) := by
  obtain ⟨a, b, c⟩ := t
  obtain ⟨a', b', c'⟩ := u
  have e : PyData.eqv (encS (a, b, c)) (encS (a', b', c')) = ((a == a') && ((b == b') && ((c == c') && true))) := by simp only [encS, PyData.eqv, PyData.eqvAll]
  rw [e]
  by_cases h : ((a, b, c) : Stp) = (a', b', c')
  · cases h
    simp
  · rw [decide_eq_false h]
    cases h1 : a == a' with
    | false => rfl
    | true =>
      cases h2 : b == b' with
      | false => rfl
      | true =>
        cases h3 : c == c' with
        | false => rfl
        | true => exact absurd (by rw [beq_iff_eq.mp h1, beq_iff_eq.mp h2, beq_iff_eq.mp h3]) h
theorem name_sok {z : Str} (h : NameOk z) : PyData.strOk z = true := by
  unfold PyData.strOk
  rw [Array.all_eq_true_iff_forall_mem]
  intro c hc
  have h1 : ∀ c ∈ smallS.cps.toList, c < 0x110000 := by decide +kernel
  exact decide_eq_true (h1 c (h.2.2 c (by simpa using hc)))
theorem encS_depth (t : Stp) : (encS t).depth = 1 := by simp [encS, PyData.depth, PyData.depthAll]
theorem encS_lay {t : Stp} (h : StpOk t) : (encS t).canLay0 = true := by simp [encS, PyData.canLay0, PyData.canLayAll0, name_sok h.2.1]
theorem encS_shaped {t : Stp} (h : StpOk t) : SeqAt.shaped (encS t) = true := by
  have hd := encS_depth t
  show ((encS t).canLay0 && decide ((encS t).depth ≤ 64)) = true
  rw [Bool.and_eq_true]
  exact ⟨encS_lay h, decide_eq_true (by omega)⟩
theorem encSs_lay : ∀ {ts : List Stp}, (∀ t ∈ ts, StpOk t) → PyData.canLayAll0 (ts.map encS) = true
  | [], _ => by simp [PyData.canLayAll0]
  | t :: r, h => by simp [PyData.canLayAll0, encS_lay (h t (by simp)), encSs_lay (ts := r) fun u hu => h u (by simp [hu])]
theorem encSs_depth : ∀ ts : List Stp, PyData.depthAll (ts.map encS) ≤ 2
  | [] => by simp [PyData.depthAll]
  | t :: r => by
    have h1 := encSs_depth r
    have h2 := encS_depth t
    simp only [List.map_cons, PyData.depthAll]
    omega
theorem encSs_shaped {ts : List Stp} (h : ∀ t ∈ ts, StpOk t) : SeqAt.shaped (.list (ts.map encS)) = true := by
  have h1 := encSs_depth ts
  show (PyData.canLay0 (.list (ts.map encS)) && decide (PyData.depth (.list (ts.map encS)) ≤ 64)) = true
  rw [Bool.and_eq_true]
  exact ⟨by simp only [PyData.canLay0]; exact encSs_lay h, decide_eq_true (by simp only [PyData.depth]; omega)⟩
theorem encTs_shaped {ts : List Stp} (h : ∀ t ∈ ts, StpOk t) : SeqAt.shaped (.tuple (ts.map encS)) = true := by
  have h1 := encSs_depth ts
  show (PyData.canLay0 (.tuple (ts.map encS)) && decide (PyData.depth (.tuple (ts.map encS)) ≤ 64)) = true
  rw [Bool.and_eq_true]
  exact ⟨by simp only [PyData.canLay0]; exact encSs_lay h, decide_eq_true (by simp only [PyData.depth]; omega)⟩
theorem any_encS (t : Stp) : ∀ ts : List Stp, ((ts.map encS).any fun z => PyData.eqv z (encS t)) = decide (t ∈ ts)
  | [] => by simp
  | u :: r => by
    rw [List.map_cons, List.any_cons, any_encS t r, encS_eqv]
    by_cases h : t = u
    · subst h
      simp
    · have h' : ¬ u = t := fun q => h q.symm
      simp [h, h']
theorem nmB_iff (z : Str) : nmB z = true ↔ NameOk z := by
  unfold nmB NameOk
  simp only [Bool.and_eq_true, decide_eq_true_eq, List.all_eq_true]
  constructor
  · rintro ⟨⟨h1, h2⟩, h3⟩
    exact ⟨h1, h2, h3⟩
  · rintro ⟨h1, h2, h3⟩
    exact ⟨⟨h1, h2⟩, h3⟩
/-- is_step's look at a thing -/
inductive StepQ (K : PySem.W.Frag) (H : Hp) : V → Bool → Prop
  | other {x : V} {n : String} : Kd K H x n → n ≠ "tuple" → StepQ K H x false
  | len {a : Addr} {xs : List V} : H a = some (.tup xs) → xs.length ≠ 3 → StepQ K H (.ref a) false
  | three {a : Addr} {u v y : V} {n1 n2 n3 : String} : H a = some (.tup [u, v, y]) → Kd K H u n1 → Kd K H v n2 → Kd K H y n3 → StepQ K H (.ref a) (btw 0 99 u && (isNm v && btw 0 99 y))
theorem IsStp.stepQ (K : PySem.W.Frag) {H : Hp} {v : V} {t : Stp} (h : IsStp H v t) (ok : StpOk t) : StepQ K H v true := by
  obtain ⟨a, rfl, h⟩ := h
  obtain ⟨⟨h1, h2⟩, h3, h4, h5⟩ := ok
  have q := StepQ.three (K := K) h (kd_int K H _) (kd_str K H (Nat.le_trans h3.2.1 (by decide))) (kd_int K H _)
  have e : (btw 0 99 (.int t.1) && (isNm (.str t.2.1) && btw 0 99 (.int t.2.2))) = true := by
    show (decide (0 ≤ t.1) && decide (t.1 ≤ 99) && (nmB t.2.1 && (decide (0 ≤ t.2.2) && decide (t.2.2 ≤ 99)))) = true
    rw [decide_eq_true h1, decide_eq_true h2, decide_eq_true h4, decide_eq_true h5, (nmB_iff _).mpr h3]
    rfl
  rw [e] at q
  exact q
structure Cst2 (mg : Str → Option Value) : Prop where
  ms : ∃ t, mg "MOST_STEPS" = some (.int 20 t)
  mo : ∃ t, mg "MOST_FROM_ONE" = some (.int 3 t)
section
variable {P : Program} {w : World} {K : PySem.W.Frag} {mg : Str → Option Value} {base : Heap} {f fA fB : Addr} {fd fdA fdB : FuncData}
abbrev sIs_step : Stmt := topS 16
abbrev nIs_step : List Str := ["thing"]
theorem scIs_step : FnScope nIs_step ["thing"] (defScope sIs_step) := ⟨rfl, rfl, rfl, by decide +kernel, rfl, by decide +kernel, by decide +kernel⟩
def spIsStep (K : PySem.W.Frag) : Sp := fun vs H Q _ => ∃ (x : V) (b : Bool), vs = [x] ∧ StepQ K H x b ∧ ∀ H', Same H H' → Q (.bl b) H'
theorem ok_is_step (D : Df K mg "is_step" sIs_step ["thing"] f fd) (DIs_state : Df K mg "is_state" sIs_state ["thing"] fA fdA) (GIs_state : FnOk P w K mg base CX0 3 fA fdA ["thing"] (spIsState K))
    (DIs_name : Df K mg "is_name" sIs_name ["thing"] fB fdB) (GIs_name : FnOk P w K mg base CX0 1 fB fdB ["thing"] (spIsName K)) (T : Bl mg) : FnOk P w K mg base CX0 4 f fd ["thing"] (spIsStep K) := by
  refine D.fn.ok scIs_step (fun vs H Q E h => ?_) (fun cdv A outer s H vs Q E hr h => ?_)
  · obtain ⟨x, b, rfl, _⟩ := h
    rfl
  · obtain ⟨x, b, rfl, hk, q⟩ := h
    refine ⟨_, (pss_cons (ps_if (PW.pt (pw_or (pt_not (pt_val (pe_callB call_isi (by rfl) T.isinstance (by decide +kernel) (pa_cons (pv 0) (pa_cons (pe_bltn (v := .ty "tuple") (by rfl) T.tuple (by decide +kernel) rfl) pa_nil))))) (pw_or1 (pt_cmpR op_ne (pe_callB call_len (by rfl) T.len (by decide +kernel) (pa_cons (pv 0) pa_nil)) pe_int (nomark _))))) (pss_one (ps_ret pe_bl)) pss_nil)
      (pss_one (ps_ret (pe_and (pe_df DIs_state GIs_state (hr.mono (by decide)) (pa_cons (pe_ix ix_tup (pv 0) pe_int (fun _ _ => rfl)) pa_nil)) (pe_and (pe_df DIs_name GIs_name (hr.mono (by decide)) (pa_cons (pe_ix ix_tup (pv 0) pe_int (fun _ _ => rfl)) pa_nil)) (pe_one (pe_df DIs_state GIs_state (hr.mono (by decide)) (pa_cons (pe_ix ix_tup (pv 0) pe_int (fun _ _ => rfl)) pa_nil)))))))), ?_⟩
    cases hk with
    | @other x n hk hn =>
      refine ⟨_, rfl, _, _, _, _, _, rfl, .ty "tuple", hk.1, kit_tuple hk.2.1, _, rfl, ?_⟩
      rw [beq_eq_false_iff_ne.mpr hn]
      exact q H (Same.refl _)
    | @len a xs ha hl =>
      refine ⟨_, rfl, _, _, _, _, _, rfl, .ty "tuple", (kd_tup K ha).1, kit_tuple (kd_tup K ha).2.1, _, rfl, ?_⟩
      refine ⟨_, rfl, _, _, rfl, .inr ⟨_, SqT.of ha, rfl⟩, rfl, _, rfl, ?_⟩
      rw [decide_eq_false (show ¬ V.int (xs.length : Int) = V.int 3 from fun e => hl (by injection e; omega))]
      exact q H (Same.refl _)
    | @three a u v y n1 n2 n3 ha k1 k2 k3 =>
      refine ⟨_, rfl, _, _, _, _, _, rfl, .ty "tuple", (kd_tup K ha).1, kit_tuple (kd_tup K ha).2.1, _, rfl, ?_⟩
      refine ⟨_, rfl, _, _, rfl, .inr ⟨_, SqT.of ha, rfl⟩, rfl, _, rfl, ?_⟩
      refine ⟨_, rfl, a, _, 0, _, rfl, rfl, SqT.of ha, atI_nat (j := 0) rfl, u, n1, rfl, k1, _, rfl, ?_⟩
      cases c1 : btw 0 99 u with
      | false =>
        rw [c1] at q
        exact q H (Same.refl _)
      | true =>
        refine ⟨_, rfl, a, _, 1, _, rfl, rfl, SqT.of ha, atI_nat (j := 1) rfl, v, n2, rfl, k2, fun H1 s1 => ⟨_, rfl, ?_⟩⟩
        cases c2 : isNm v with
        | false =>
          rw [c1, c2] at q
          exact q H1 s1
        | true =>
          rw [c1, c2] at q
          exact ⟨_, rfl, a, _, 2, _, rfl, rfl, SqT.of (s1 _ _ ha), atI_nat (j := 2) rfl, y, n3, rfl, k3.mono s1, q H1 s1⟩

/-! ### good_steps, where nothing is wrong -/
def fstV (H : Hp) (i : Int) (v : V) : Option V := match v with
  | .ref a => match H a with
    | some (.tup (.int j :: _)) => if decide (V.int j = V.int i) = true then some v else none
    | _ => none
  | _ => none
def cnt (i : Int) (ts : List Stp) : Nat := (ts.filter fun t => decide (t.1 = i)).length
theorem fstV_len {H : Hp} (i : Int) : ∀ {xs : List V} {ts : List Stp}, Stps H xs ts → (xs.filterMap (fstV H i)).length = cnt i ts
  | _, _, .nil => rfl
  | _, _, .cons (a := v) (b := t) r q => by
    have ih := fstV_len i q
    obtain ⟨a, rfl, ha⟩ := r
    have e : fstV H i (.ref a) = if decide (V.int t.1 = V.int i) = true then some (.ref a) else none := by
      unfold fstV
      simp only [ha, stpV]
    unfold cnt at ih ⊢
    rw [List.filterMap_cons, e, List.filter_cons]
    by_cases h : t.1 = i
    · rw [if_pos (by simp [h]), if_pos (by simp [h])]
      simp [ih]
    · rw [if_neg (by simp [h]), if_neg (by simp [h])]
      exact ih
/-- the steps are good: of the right form, none twice, at most three from one state -/
structure GoodS (ts : List Stp) : Prop where
  l1 : 1 ≤ ts.length
  l2 : ts.length ≤ 20
  ok : ∀ t ∈ ts, StpOk t
  nd : ts.Nodup
  few : ∀ i t, ts[i]? = some t → cnt t.1 (ts.take i) ≠ 3
theorem take_next {α : Type} {l : List α} {i : Nat} {x : α} (h : l[i]? = some x) : l.take (i + 1) = l.take i ++ [x] := by
  rw [List.take_add_one, h]
  rfl
theorem not_before {ts : List Stp} (nd : ts.Nodup) {i : Nat} {t : Stp} (h : ts[i]? = some t) : t ∉ ts.take i := fun m => by
  obtain ⟨j, hj, e⟩ := List.mem_take_iff_getElem.mp m
  obtain ⟨hi, e2⟩ := List.getElem?_eq_some_iff.mp h
  have := (List.getElem_inj (h₀ := by omega) (h₁ := hi) nd).mp (e.trans e2.symm)
  omega
/-- a row: a list or a tuple -/
def RowAt (H : Hp) (a : Addr) (xs : List V) : Prop := H a = some (.lst xs) ∨ H a = some (.tup xs)
theorem RowAt.mono {H H' : Hp} {a : Addr} {xs : List V} (s : Same H H') (h : RowAt H a xs) : RowAt H' a xs := h.imp (s _ _) (s _ _)
/-- for i, x in enumerate(row) -/
theorem for_enum {K : PySem.W.Frag} {a : Addr} {xs : List V} {g : TG} {tb : TS} {D : Ends} {σ : L2.St} {H : Hp} (Pv : Nat → L2.St → Hp → Prop) {o : HO} (ho : o = .lst xs ∨ o = .tup xs) (hrow : H a = some o) (h0 : Pv 0 σ H) (hl : ∀ i σ H, Pv i σ H → H a = some o)
    (hs : ∀ i x T σ H, xs[i]? = some x → Pv i σ H → H T = none → g (.ref T) σ (upd H T (.tup [.int (i : Nat), x])) fun σ2 H2 => tb { D with nx := Pv (i + 1), ct := Pv (i + 1), bk := D.nx } σ2 H2) (hd : ∀ σ H, Pv xs.length σ H → D.nx σ H) :
    (∃ a' xs', [V.ref a] = [V.ref a'] ∧ SqL K H a' xs' ∧ ∃ W : Nat → Nat → L2.St → Hp → Prop, (∃ m, W 0 m σ H) ∧ ∀ i m σ H, W i m σ H →
      ((Ite K a').stop i H ∧ D.nx σ H) ∨ ((Ite K a').go i H ∧ ∃ N : L2.St → Hp → Prop, (∀ σ' H', N σ' H' → ∃ m', m' < m ∧ W (i + 1) m' σ' H') ∧ ∀ x H', (Ite K a').yld i H x H' → g x σ H' fun σ2 H2 => tb { D with nx := N, ct := N, bk := D.nx } σ2 H2)) ∨
    (∃ a' xs', [V.ref a] = [V.ref a'] ∧ SqT K H a' xs' ∧ ∃ W : Nat → Nat → L2.St → Hp → Prop, (∃ m, W 0 m σ H) ∧ ∀ i m σ H, W i m σ H →
      ((Itet K a').stop i H ∧ D.nx σ H) ∨ ((Itet K a').go i H ∧ ∃ N : L2.St → Hp → Prop, (∀ σ' H', N σ' H' → ∃ m', m' < m ∧ W (i + 1) m' σ' H') ∧ ∀ x H', (Itet K a').yld i H x H' → g x σ H' fun σ2 H2 => tb { D with nx := N, ct := N, bk := D.nx } σ2 H2)) := by
  rcases ho with rfl | rfl
  · refine .inl ⟨a, xs, rfl, SqL.of hrow, fun i m σ H => m = xs.length - i ∧ i ≤ xs.length ∧ Pv i σ H, ⟨_, rfl, Nat.zero_le _, h0⟩, ?_⟩
    rintro i m σ H ⟨rfl, hi, p⟩
    have hr := hl i σ H p
    by_cases h : i < xs.length
    · refine .inr ⟨⟨xs, xs[i], SqL.of hr, List.getElem?_eq_getElem h⟩, Pv (i + 1), fun σ' H' z => ⟨_, by omega, rfl, by omega, z⟩, ?_⟩
      rintro v H' ⟨T, x, rfl, nT, rfl, hx⟩
      exact hs i x T σ H (hx xs (SqL.of hr)) p nT
    · have e : i = xs.length := by omega
      subst e
      exact .inl ⟨⟨xs, SqL.of hr, Nat.le_refl _⟩, hd σ H p⟩
  · refine .inr ⟨a, xs, rfl, SqT.of hrow, fun i m σ H => m = xs.length - i ∧ i ≤ xs.length ∧ Pv i σ H, ⟨_, rfl, Nat.zero_le _, h0⟩, ?_⟩
    rintro i m σ H ⟨rfl, hi, p⟩
    have hr := hl i σ H p
    by_cases h : i < xs.length
    · refine .inr ⟨⟨xs, xs[i], SqT.of hr, List.getElem?_eq_getElem h⟩, Pv (i + 1), fun σ' H' z => ⟨_, by omega, rfl, by omega, z⟩, ?_⟩
      rintro v H' ⟨T, x, rfl, nT, rfl, hx⟩
      exact hs i x T σ H (hx xs (SqT.of hr)) p nT
    · have e : i = xs.length := by omega
      subst e
      exact .inl ⟨⟨xs, SqT.of hr, rfl⟩, hd σ H p⟩
abbrev sGood_steps : Stmt := topS 17
abbrev nGood_steps : List Str := ["steps", "kept", "at", "step", "old"]
theorem scGood_steps : FnScope nGood_steps ["steps"] (defScope sGood_steps) := ⟨rfl, rfl, rfl, by decide +kernel, rfl, by decide +kernel, by decide +kernel⟩
def spGood : Sp := fun vs H Q _ => ∃ (a : Addr) (xs : List V) (ts : List Stp), vs = [.ref a] ∧ RowAt H a xs ∧ Stps H xs ts ∧ GoodS ts ∧ ∀ p H', H p = none → Same H H' → H' p = some (.tup xs) → Q (.ref p) H'
theorem ok_good {fC : Addr} {fdC : FuncData} (D : Df K mg "good_steps" sGood_steps ["steps"] f fd) (DIs_row : Df K mg "is_row" sIs_row ["thing"] fA fdA) (GIs_row : FnOk P w K mg base CX0 1 fA fdA ["thing"] (spIsRow K))
    (DIs_step : Df K mg "is_step" sIs_step ["thing"] fB fdB) (GIs_step : FnOk P w K mg base CX0 4 fB fdB ["thing"] (spIsStep K)) (T : Bl mg) (C : Cst2 mg) : FnOk P w K mg base CX0 5 f fd ["steps"] spGood := by
  obtain ⟨t1, hms⟩ := C.ms
  obtain ⟨t2, hmo⟩ := C.mo
  refine D.fn.ok scGood_steps (fun vs H Q E h => ?_) (fun cdv A outer s H vs Q E hr h => ?_)
  · obtain ⟨a, xs, ts, rfl, _⟩ := h
    rfl
  · obtain ⟨a, xs, ts, rfl, hrow, hx, G, q⟩ := h
    refine ⟨_, (pss_cons (ps_if (PW.pt (pw_or (pt_not (pt_val (pe_df DIs_row GIs_row (hr.mono (by decide)) (pa_cons (pv 0) pa_nil)))) (pw_or1 (pt_not (pt_chain op_le op_le pe_int (pe_callB call_len (by rfl) T.len (by decide +kernel) (pa_cons (pv 0) pa_nil)) (pe_glob (v := .int 20) (by rfl) hms ⟨_, rfl⟩)))))) (pss_one ps_never) pss_nil)
      (pss_cons (ps_set (i := 1) scGood_steps.nd rfl (Or.inl rfl) (pe_lst pa_nil))
      (pss_cons (ps_for PassesOwn.never rfl (pi_enumD (by rfl) T.enumerate (pa_cons (pv 0) pa_nil)) (pg_tup rfl (pgs_cons (pg_name (i := 2) scGood_steps.nd rfl (Or.inl rfl)) (pgs_cons (pg_name (i := 3) scGood_steps.nd rfl (Or.inr rfl)) pgs_nil))) (pss_cons (ps_if (PW.pt (pw_or (pt_not (pt_val (pe_df DIs_step GIs_step (hr.mono (by decide)) (pa_cons (pv 3) pa_nil)))) (pw_or1 (pt_cmpR (op_inD (hu65 hr)) (pv 3) (pv 1) (by rfl))))) (pss_one ps_never) pss_nil)
      (pss_cons (ps_if (pt_cmpR op_eq (pe_callB call_len (by rfl) T.len (by decide +kernel) (pa_cons (pe_lc (own := [("old", 4)]) rfl scGood_steps.nd (pi_list (pv 1)) (blkOk_by (own := [("old", 4)]) (N := nGood_steps) (sc := defScope sGood_steps) (by decide +kernel)) (fun _ _ _ _ _ => (pg_name (i := 4) scGood_steps.nd rfl (Or.inl rfl))) (fun _ _ _ _ _ => (pts_one (pt_cmpR op_eq (pe_ix (r := rIxT K) ix_tup (pv 4) pe_int (fun _ _ => rfl)) (pe_ix (r := rIxT K) ix_tup (pv 3) pe_int (fun _ _ => rfl)) (nomark _)))) (fun _ _ _ _ _ => (pv 4))) pa_nil)) (pe_glob (v := .int 3) (by rfl) hmo ⟨_, rfl⟩) (nomark _)) (pss_one ps_never) pss_nil)
      (pss_one (ps_expr (pe_bm PySem.F.plainAttrs_list PySem.F.slot_list_append PySem.F.type_list_append mt_append (pv 1) (pa_cons (pv 3) pa_nil)))))))
      (pss_one (ps_ret (pe_callTy call_tuple_of (by rfl) T.tuple (by decide +kernel) (pa_cons (pv 1) pa_nil))))))), ?_⟩
    have hlx : xs.length = ts.length := Paired.length hx
    have hl1 := G.l1
    have hl2 := G.l2
    obtain ⟨n, hk, hn⟩ : ∃ n, Kd K H (.ref a) n ∧ (n == "list" || n == "tuple") = true := by
      rcases hrow with h | h
      · exact ⟨_, kd_lst K h, rfl⟩
      · exact ⟨_, kd_tup K h, rfl⟩
    refine ⟨_, rfl, _, n, rfl, hk, fun H1 s1 => ?_⟩
    rw [hn]
    have row1 := hrow.mono s1
    refine ⟨_, rfl, ?_⟩
    refine ⟨_, rfl, _, xs.length, rfl, ?_, _, _, rfl, rfl, _, rfl, ?_⟩
    · rcases row1 with h | h
      · exact .inl ⟨_, SqL.of h, rfl⟩
      · exact .inr ⟨_, SqT.of h, rfl⟩
    rw [decide_eq_true (show (1 : Int) ≤ (xs.length : Int) by omega)]
    refine ⟨_, _, rfl, rfl, _, rfl, ?_⟩
    rw [decide_eq_true (show (xs.length : Int) ≤ 20 by omega)]
    refine ⟨Nat.zero_le _, fun l hl => ?_⟩
    have nal : a ≠ l := fun z => by
      rcases row1 with h | h
      · exact (ne_of_none h hl) z
      · exact (ne_of_none h hl) z
    obtain ⟨o, ho, hao⟩ : ∃ o, (o = HO.lst xs ∨ o = HO.tup xs) ∧ H1 a = some o := by
      rcases row1 with h | h
      · exact ⟨_, .inl rfl, h⟩
      · exact ⟨_, .inr rfl, h⟩
    have sl : Same H1 (upd H1 l (.lst [])) := same_upd hl
    refine ⟨_, rfl, for_enum (K := K) (a := a) (xs := xs) (fun i σ H' => ∃ v2 v3 v4, σ = [some (.ref a), some (.ref l), v2, v3, v4] ∧ Same H1 H' ∧ H' l = some (.lst (xs.take i)) ∧ i ≤ xs.length) ho (sl _ _ hao) ?_ ?_ ?_ ?_⟩
    · exact ⟨none, none, none, rfl, sl, upd_same, Nat.zero_le _⟩
    · rintro i σ H' ⟨_, _, _, _, sm, _⟩
      exact sm _ _ hao
    · rintro i x T' σ H' hi ⟨v2, v3, v4, rfl, sm, hl', hil⟩ nT
      obtain ⟨t, ht, hxt⟩ := paired_get hx hi
      have sT : Same H' (upd H' T' (.tup [.int (i : Nat), x])) := same_upd nT
      have htm : t ∈ ts := List.mem_of_getElem? ht
      have hok := G.ok t htm
      refine ⟨T', _, rfl, SqT.of upd_same, rfl, _, _, rfl, _, _, rfl, rfl, ?_⟩
      have sH : Same H (upd H' T' (.tup [.int (i : Nat), x])) := s1.trans (sm.trans sT)
      have hlT := sT _ _ hl'
      have hx2 : Stps (upd H' T' (.tup [.int (i : Nat), x])) (xs.take i) (ts.take i) := Stps.take i (hx.mono sH)
      have sm2 : Same H1 (upd H' T' (.tup [.int (i : Nat), x])) := sm.trans sT
      generalize upd H' T' (.tup [.int (i : Nat), x]) = H2 at sH hlT hx2 sm2 ⊢
      refine ⟨_, rfl, x, true, rfl, (hxt.mono sH).stepQ K hok, fun H3 s3 => ⟨_, rfl, ?_⟩⟩
      refine ⟨_, rfl, _, rfl, _, _, (hxt.mono (sH.trans s3)).dp, .lst (SqL.of (s3 _ _ hlT)) (Stps.dpAll (hx2.mono s3)), encS_shaped hok, encSs_shaped (fun u hu => G.ok u (List.mem_of_mem_take hu)), _, rfl, ?_⟩
      rw [any_encS, decide_eq_false (not_before G.nd ht)]
      have hl3 := s3 _ _ hlT
      have hx3 := hx2.mono s3
      have hxt3 := hxt.mono (sH.trans s3)
      obtain ⟨at3, rfl, ht3⟩ := id hxt3
      refine ⟨_, rfl, l, rfl, ⟨_, SqL.of hl3⟩, fun D1 hD1 => lc_pure (fstV H3 t.1) (SqL.of hl3) (by rw [List.length_take]; omega) (fun _ => rfl) (fun x0 H4 hx0 s4 Q4 q4 => ?_) hD1 (fun H4 s4 h4 => ?_)⟩
      · obtain ⟨t0, _, a0, rfl, ha0⟩ := paired_memL hx3 x0 hx0
        have e0 : fstV H3 t.1 (.ref a0) = if decide (V.int t0.1 = V.int t.1) = true then some (.ref a0) else none := by
          unfold fstV
          simp only [ha0, stpV]
        refine ⟨_, rfl, a0, _, 0, _, rfl, rfl, SqT.of (s4 _ _ ha0), atI_nat (j := 0) rfl, _, rfl, at3, _, 0, _, rfl, rfl, SqT.of (s4 _ _ ht3), atI_nat (j := 0) rfl, rfl, _, rfl, ite2 (fun c => ⟨_, rfl, ?_⟩) (fun c => ?_)⟩
        · have := q4 H4 (Same.refl _)
          rw [e0, if_pos c] at this
          exact this
        · have := q4 H4 (Same.refl _)
          rw [e0, if_neg c] at this
          exact this
      · have hlen := fstV_len (H := H3) t.1 hx3
        refine ⟨_, _, rfl, .inl ⟨_, SqL.of h4, rfl⟩, rfl, _, rfl, ?_⟩
        rw [decide_eq_false (show ¬ V.int (((xs.take i).filterMap (fstV H3 t.1)).length : Int) = V.int 3 from fun e => by
          have e1 := V.int.inj e
          rw [hlen] at e1
          exact G.few i t ht (by omega))]
        refine ⟨_, rfl, .inl ⟨rfl, _, SqL.of (s4 _ _ hl3)⟩, _, rfl, l, _, _, rfl, rfl, s4 _ _ hl3, small1000 (by rw [List.length_take]; omega), ?_⟩
        refine ⟨_, _, _, rfl, fun b ob hb => ?_, by rw [upd_same, take_next hi], by have := (List.getElem?_eq_some_iff.mp hi).1; omega⟩
        rw [upd_ne (ne_of_none hb hl)]
        exact s4 _ _ (s3 _ _ (sm2 _ _ hb))
    · rintro σ H' ⟨v2, v3, v4, rfl, sm, hl', hil⟩
      rw [List.take_length] at hl'
      refine ⟨_, rfl, l, _, rfl, .inl ⟨SqL.of hl', fun p hp => ?_⟩⟩
      exact q p _ ((s1.trans sm).free hp) ((s1.trans sm).trans (same_upd hp)) upd_same
end
end WW

set_option Elab.async false
set_option linter.all false
set_option maxRecDepth 100000
set_option maxHeartbeats 4000000
namespace WW
open PySem PySem.Spec PyProof.Rows L2
theorem hu70 {A : Around} {k : Nat} (hr : Room k A) : A.units + 70 < cLine := by
  have := hr.un
  omega
/-! ### texts in order -/
def leS (a b : Str) : Bool := decide (a.cps.toList ≤ b.cps.toList)
theorem str_ext {a b : Str} (h : a.cps.toList = b.cps.toList) : a = b := by
  cases a with
  | mk x =>
    cases b with
    | mk y =>
      have : x = y := Array.toList_inj.mp h
      rw [this]
theorem leS_trans : ∀ x y z, leS x y = true → leS y z = true → leS x z = true := fun x y z h1 h2 => decide_eq_true (List.le_trans (of_decide_eq_true h1) (of_decide_eq_true h2))
theorem leS_total : ∀ x y, (leS x y || leS y x) = true := fun x y => by
  rw [Bool.or_eq_true]
  rcases List.le_total x.cps.toList y.cps.toList with h | h
  · exact .inl (decide_eq_true h)
  · exact .inr (decide_eq_true h)
theorem leS_anti : ∀ x y, leS x y = true → leS y x = true → x = y := fun x y h1 h2 => str_ext (List.le_antisymm (of_decide_eq_true h1) (of_decide_eq_true h2))
theorem sortS_perm {l l' : List Str} (h : l.Perm l') : l.mergeSort leS = l'.mergeSort leS := by
  refine PySem.W.Srt.the_of_perm leS leS_trans leS_total leS_anti ((List.mergeSort_perm l leS).trans h) ?_
  exact List.pairwise_mergeSort leS_trans leS_total l
theorem srtD_strs (ys : List Str) : srtD (ys.map fun z => (V.str z, PyData.str z)) = (ys.mergeSort leS).map V.str := by
  unfold srtD
  have e : ((ys.map fun z => (V.str z, PyData.str z)).mergeSort (PySem.W.dataLe false fun z : V × PyData => z.2)) = (ys.mergeSort leS).map fun z => (V.str z, PyData.str z) := by
    refine (PySem.W.sort_maps (fun z => (V.str z, PyData.str z)) fun a _ b _ => ?_).symm
    have := congrFun (congrFun (PySem.W.dataLe_str (fun z : Str => z)) a) b
    exact this.symm
  rw [e, List.map_map]
  rfl
theorem mem_insG {κ : Type} [DecidableEq κ] {k x : κ} {ks : List κ} : x ∈ insG k ks ↔ x = k ∨ x ∈ ks := by
  unfold insG
  by_cases h : k ∈ ks
  · rw [if_pos h]
    exact ⟨.inr, fun z => z.elim (fun e => e ▸ h) id⟩
  · rw [if_neg h, List.mem_cons]
theorem nodup_insG {κ : Type} [DecidableEq κ] {k : κ} {ks : List κ} (n : ks.Nodup) : (insG k ks).Nodup := by
  unfold insG
  by_cases h : k ∈ ks
  · rw [if_pos h]
    exact n
  · rw [if_neg h]
    exact List.nodup_cons.mpr ⟨h, n⟩
def ddS (l : List Str) : List Str := l.foldr insG []
theorem mem_ddS {x : Str} : ∀ {l : List Str}, x ∈ ddS l ↔ x ∈ l
  | [] => Iff.rfl
  | y :: r => by
    show x ∈ insG y (ddS r) ↔ _
    rw [mem_insG, mem_ddS, List.mem_cons]
theorem nodup_ddS : ∀ (l : List Str), (ddS l).Nodup
  | [] => List.nodup_nil
  | y :: r => nodup_insG (nodup_ddS r)
theorem insG_inr (z : Str) (ks : List Str) : insG (Sum.inr z : Key) (ks.map Sum.inr) = (insG z ks).map Sum.inr := by
  have e : (Sum.inr z : Key) ∈ ks.map Sum.inr ↔ z ∈ ks := by
    rw [List.mem_map]
    exact ⟨fun ⟨y, hy, q⟩ => Sum.inr.inj q ▸ hy, fun h => ⟨z, h, rfl⟩⟩
  unfold insG
  by_cases h : z ∈ ks
  · rw [if_pos h, if_pos (e.mpr h)]
  · rw [if_neg h, if_neg (fun q => h (e.mp q))]
    rfl
/-- the words of steps, ascending -/
def wordsOf (ts : List Stp) : List Str := (ddS (ts.map (·.2.1))).mergeSort leS
theorem nodup_mem_perm {α : Type} [DecidableEq α] : ∀ {l l' : List α}, l.Nodup → l'.Nodup → (∀ x, x ∈ l ↔ x ∈ l') → l.Perm l'
  | [], l', _, _, h => by
    cases l' with
    | nil => exact .nil
    | cons x r => exact absurd ((h x).mpr (by simp)) (by simp)
  | x :: r, l', n1, n2, h => by
    have hx : x ∈ l' := (h x).mp (by simp)
    refine List.Perm.trans (List.Perm.cons x ?_) (List.perm_cons_erase hx).symm
    refine nodup_mem_perm (List.nodup_cons.mp n1).2 (n2.erase x) fun y => ?_
    rw [n2.mem_erase_iff]
    constructor
    · intro hy
      exact ⟨fun e => (List.nodup_cons.mp n1).1 (e ▸ hy), (h y).mp (by simp [hy])⟩
    · rintro ⟨e, hy⟩
      rcases List.mem_cons.mp ((h y).mpr hy) with q | q
      · exact absurd q e
      · exact q
theorem words_any {ts : List Stp} {ks : List Str} (nd : ks.Nodup) (h : ∀ z, z ∈ ks ↔ z ∈ ts.map (·.2.1)) : ks.mergeSort leS = wordsOf ts :=
  sortS_perm (nodup_mem_perm nd (nodup_ddS _) fun z => by rw [h, mem_ddS])
theorem words_perm {ts ts' : List Stp} (h : ts.Perm ts') : wordsOf ts = wordsOf ts' :=
  words_any (ts := ts') (nodup_ddS _) fun z => by rw [mem_ddS]; exact (h.map _).mem_iff
/-! ### steps in order -/
def leT (a b : Stp) : Bool := PySem.W.dataLe false encS a b
def sortT (ts : List Stp) : List Stp := ts.mergeSort leT
theorem ltS (x y x' y' : Int) (u u' : Str) : PySem.W.dataLt (encS (x, u, y)) (encS (x', u', y')) = if x = x' then (if u = u' then decide (y < y') else decide (u.cps.toList < u'.cps.toList)) else decide (x < x') := by
  have e0 : PyProof.Rows.lexLt itemOrd (PySem.W.keyToksAll []) (PySem.W.keyToksAll []) = false := lex_irrefl _
  unfold encS
  rw [PySem.W.dataLt_tuple, PySem.W.dataLt_cons (by simp [PySem.W.alike]), PySem.W.dataLt_cons (by simp [PySem.W.alike]), PySem.W.dataLt_cons (by simp [PySem.W.alike]), e0, PySem.W.dataLt_int, PySem.W.dataLt_int, PySem.W.dataLt_str]
  simp only [PyData.eqv, beq_iff_eq]
  by_cases h1 : x = x'
  · rw [if_pos h1, if_pos h1]
    by_cases h2 : u = u'
    · rw [if_pos h2, if_pos h2]
      by_cases h3 : y = y'
      · rw [if_pos h3, h3]
        simp
      · rw [if_neg h3]
    · rw [if_neg h2, if_neg h2]
  · rw [if_neg h1, if_neg h1]
theorem leT_total : ∀ x y, (leT x y || leT y x) = true := fun x y => by
  have h := (PySem.W.sortLe_total (listOrd itemOrd) false (fun b : Stp => PySem.W.keyToks (encS b))).total x y
  rw [Bool.or_eq_true]
  exact h
theorem leT_trans : ∀ x y z, leT x y = true → leT y z = true → leT x z = true := fun x y z =>
  (PySem.W.sortLe_total (listOrd itemOrd) false (fun b : Stp => PySem.W.keyToks (encS b))).trans x y z
theorem leT_anti : ∀ x y, leT x y = true → leT y x = true → x = y := fun x y h1 h2 => by
  have e1 : PySem.W.dataLt (encS y) (encS x) = false := by
    have q : (!PySem.W.dataLt (encS y) (encS x)) = true := h1
    simpa using q
  have e2 : PySem.W.dataLt (encS x) (encS y) = false := by
    have q : (!PySem.W.dataLt (encS x) (encS y)) = true := h2
    simpa using q
  obtain ⟨a, u, b⟩ := x
  obtain ⟨a', u', b'⟩ := y
  rw [ltS] at e1 e2
  by_cases h : a = a'
  · subst h
    rw [if_pos rfl] at e1 e2
    by_cases h' : u = u'
    · subst h'
      rw [if_pos rfl] at e1 e2
      have q1 := of_decide_eq_false e1
      have q2 := of_decide_eq_false e2
      have : b = b' := by omega
      rw [this]
    · rw [if_neg (fun q => h' q.symm)] at e1
      rw [if_neg h'] at e2
      have q1 := of_decide_eq_false e1
      have q2 := of_decide_eq_false e2
      exact absurd (str_ext (List.le_antisymm (List.not_lt.mp q1) (List.not_lt.mp q2))) h'
  · rw [if_neg (fun q => h q.symm)] at e1
    rw [if_neg h] at e2
    have q1 := of_decide_eq_false e1
    have q2 := of_decide_eq_false e2
    omega
theorem sortT_perm {l l' : List Stp} (h : l.Perm l') : sortT l = sortT l' :=
  PySem.W.Srt.the_of_perm leT leT_trans leT_total leT_anti ((List.mergeSort_perm l leT).trans h) (List.pairwise_mergeSort leT_trans leT_total l)
theorem stps_of {H : Hp} : ∀ {ps : List (V × Stp)}, (∀ p ∈ ps, IsStp H p.1 p.2) → Stps H (ps.map (·.1)) (ps.map (·.2))
  | [], _ => .nil
  | p :: r, h => .cons (h p (by simp)) (stps_of fun q hq => h q (by simp [hq]))
theorem of_stps {H : Hp} : ∀ {xs : List V} {ts : List Stp}, Stps H xs ts → ∃ ps : List (V × Stp), xs = ps.map (·.1) ∧ ts = ps.map (·.2) ∧ ∀ p ∈ ps, IsStp H p.1 p.2
  | _, _, .nil => ⟨[], rfl, rfl, fun p h => by cases h⟩
  | _, _, .cons (a := v) (b := t) r q => by
    obtain ⟨ps, rfl, rfl, h⟩ := of_stps q
    refine ⟨(v, t) :: ps, rfl, rfl, fun p hp => ?_⟩
    rcases List.mem_cons.mp hp with e | e
    · rw [e]
      exact r
    · exact h p e
/-- the pairs that sorted gets of steps -/
def encP (ps : List (V × Stp)) : List (V × PyData) := ps.map fun p => (p.1, encS p.2)
/-- sorted of the steps: what the new list holds -/
theorem srtD_stps {H : Hp} {ps : List (V × Stp)} (h : ∀ p ∈ ps, IsStp H p.1 p.2) : Stps H (srtD (encP ps)) (sortT (ps.map (·.2))) := by
  have e1 : srtD (encP ps) = (ps.mergeSort fun p q => leT p.2 q.2).map (·.1) := by
    unfold srtD encP
    have e : ((ps.map fun p => (p.1, encS p.2)).mergeSort (PySem.W.dataLe false fun z : V × PyData => z.2)) = (ps.mergeSort fun p q => leT p.2 q.2).map fun p => (p.1, encS p.2) :=
      (PySem.W.sort_maps (fun p : V × Stp => (p.1, encS p.2)) fun a _ b _ => rfl).symm
    rw [e, List.map_map]
    rfl
  have e2 : sortT (ps.map (·.2)) = (ps.mergeSort fun p q => leT p.2 q.2).map (·.2) := (PySem.W.sort_maps (fun p : V × Stp => p.2) fun a _ b _ => rfl).symm
  rw [e1, e2]
  exact stps_of fun p hp => h p ((List.mergeSort_perm ps _).mem_iff.mp hp)
theorem encP_fst (ps : List (V × Stp)) : (encP ps).map (·.1) = ps.map (·.1) := by
  unfold encP
  rw [List.map_map]
  rfl
theorem encP_snd (ps : List (V × Stp)) : (encP ps).map (·.2) = (ps.map (·.2)).map encS := by
  unfold encP
  rw [List.map_map, List.map_map]
  rfl
theorem encP_sorts (ps : List (V × Stp)) : PySem.W.AllAlike ((encP ps).map (·.2)) ∧ PySem.W.Sortable ((encP ps).map (·.2)) := by
  rw [encP_snd]
  exact ⟨PySem.W.AllAlike.of fun b b' => by simp [encS, PySem.W.alike, PySem.W.alikeAll], PySem.W.Sortable.tuples fun b => ⟨_, _, rfl⟩⟩
/-- two rows of steps compared as data -/
theorem eqv_stps : ∀ ts us : List Stp, PyData.eqvAll (ts.map encS) (us.map encS) = decide (ts = us)
  | [], [] => by simp [PyData.eqvAll]
  | [], u :: us => by simp [PyData.eqvAll]
  | t :: ts, [] => by simp [PyData.eqvAll]
  | t :: ts, u :: us => by
    rw [List.map_cons, List.map_cons]
    simp only [PyData.eqvAll]
    rw [encS_eqv, eqv_stps ts us]
    by_cases h1 : t = u <;> by_cases h2 : ts = us <;> simp [h1, h2]
end WW

set_option Elab.async false
set_option linter.all false
set_option maxRecDepth 100000
set_option maxHeartbeats 4000000
namespace WW
open PySem PySem.Spec PyProof.Rows L2
/-! ### hands -/
theorem nbr : ¬ (("begin" : Str) = "row") := by decide +kernel
theorem nrb : ¬ (("row" : Str) = "begin") := by decide +kernel
def hf0 (b : Int) : List (Str × V) := putF "begin" (.int b) []
def hfs (b : Int) (r : Addr) : List (Str × V) := putF "row" (.ref r) (hf0 b)
theorem hfs_row (b : Int) (r : Addr) : (hfs b r).lookup ("row" : Str) = some (.ref r) := by
  unfold hfs
  rw [lookup_putF, if_pos rfl]
theorem hfs_begin (b : Int) (r : Addr) : (hfs b r).lookup ("begin" : Str) = some (.int b) := by
  unfold hfs hf0
  rw [lookup_putF, if_neg nbr, lookup_putF, if_pos rfl]
/-- at h stands a hand with the start b and the steps ts -/
def HandAt (C : Addr) (H : Hp) (h : Addr) (b : Int) (ts : List Stp) : Prop := ∃ dx r xs, H h = some (.ins C dx (hfs b r)) ∧ H r = some (.tup xs) ∧ Stps H xs ts
theorem HandAt.mono {C : Addr} {H H' : Hp} {h : Addr} {b : Int} {ts : List Stp} (s : Same H H') (x : HandAt C H h b ts) : HandAt C H' h b ts := by
  obtain ⟨dx, r, xs, h1, h2, h3⟩ := x
  exact ⟨dx, r, xs, s _ _ h1, s _ _ h2, h3.mono s⟩
structure HandC (K : PySem.W.Frag) (mg : Str → Option Value) (C : Addr) : Prop where
  cl : Cls K C
  nB : NoAttr K C "begin"
  nR : NoAttr K C "row"
  mgC : mg "Hand" = some (.ref C)
section
variable {P : Program} {w : World} {K : PySem.W.Frag} {mg : Str → Option Value} {base : Heap} {f fA fB CH : Addr} {fd fdA fdB : FuncData}
abbrev sHand_init : Stmt := inClass (topS 18) 0
abbrev nHand_init : List Str := ["self", "start", "steps"]
theorem scHand_init : FnScope nHand_init ["self", "start", "steps"] (defScope sHand_init) := ⟨rfl, rfl, rfl, by decide +kernel, rfl, by decide +kernel, by decide +kernel⟩
def spHInit (C : Addr) : Sp := fun vs H Q _ => ∃ (x dx : Addr) (b : Int) (a : Addr) (xs : List V) (ts : List Stp), vs = [.ref x, .int b, .ref a] ∧ H x = some (.ins C dx []) ∧ (0 ≤ b ∧ b ≤ 99) ∧ RowAt H a xs ∧ Stps H xs ts ∧ GoodS ts ∧
  ∀ r H', H r = none → (∀ c o, c ≠ x → H c = some o → H' c = some o) → H' x = some (.ins C dx (hfs b r)) → H' r = some (.tup xs) → Q .non H'
theorem ok_hinit (F : Fun K "__init__" "Hand.__init__" sHand_init f fd) (HC : HandC K mg CH) (DIs_state : Df K mg "is_state" sIs_state ["thing"] fA fdA) (GIs_state : FnOk P w K mg base CX0 3 fA fdA ["thing"] (spIsState K))
    (DGood_steps : Df K mg "good_steps" sGood_steps ["steps"] fB fdB) (GGood_steps : FnOk P w K mg base CX0 5 fB fdB ["steps"] spGood) : FnOk P w K mg base CX0 6 f fd ["self", "start", "steps"] (spHInit CH) := by
  refine F.ok scHand_init (fun vs H Q E h => ?_) (fun cdv A outer s H vs Q E hr h => ?_)
  · obtain ⟨x, dx, b, a, xs, ts, rfl, _⟩ := h
    rfl
  · obtain ⟨x, dx, b, a, xs, ts, rfl, hx, ⟨b0, b1⟩, hrow, hst, G, q⟩ := h
    refine ⟨_, (pss_cons (ps_if (pt_not (pt_val (pe_df DIs_state GIs_state (hr.mono (by decide)) (pa_cons (pv 1) pa_nil)))) (pss_one ps_never) pss_nil)
      (pss_cons (ps_fld (pv 0) (pv 1) rfl)
      (pss_one (ps_fld (pv 0) (pe_df DGood_steps GGood_steps (hr.mono (by decide)) (pa_cons (pv 2) pa_nil)) rfl)))), ?_⟩
    refine ⟨_, rfl, _, "int", rfl, kd_int K H b, ?_⟩
    have e : btw 0 99 (.int b) = true := by
      show (decide (0 ≤ b) && decide (b ≤ 99)) = true
      rw [decide_eq_true b0, decide_eq_true b1]
      rfl
    rw [e]
    refine ⟨_, rfl, ?_⟩
    refine ⟨_, rfl, _, rfl, x, CH, dx, [], rfl, hx, HC.cl, HC.nB, by show 0 < 1000; decide, ?_⟩
    have nx : ∀ (c : Addr) (o : HO), (∀ C dx fs, o ≠ .ins C dx fs) → H c = some o → c ≠ x := fun c o n h z => by
      rw [z, hx] at h
      exact n _ _ _ (Option.some.inj h).symm
    have keep : ∀ c o, c ≠ x → H c = some o → upd H x (.ins CH dx (putF "begin" (.int b) [])) c = some o := fun c o n h => (upd_ne n).trans h
    have hrow' : RowAt (upd H x (.ins CH dx (putF "begin" (.int b) []))) a xs := by
      rcases hrow with h | h
      · exact .inl (keep _ _ (nx _ _ (fun _ _ _ z => by cases z) h) h)
      · exact .inr (keep _ _ (nx _ _ (fun _ _ _ z => by cases z) h) h)
    have hst' : Stps (upd H x (.ins CH dx (putF "begin" (.int b) []))) xs ts := L2.Paired.mapP hst fun v t ⟨a, e, h⟩ => ⟨a, e, keep _ _ (nx _ _ (fun _ _ _ z => by cases z) h) h⟩
    refine ⟨_, rfl, a, xs, ts, rfl, hrow', hst', G, fun p H' np s' hp => ?_⟩
    have hx' := s' _ _ (upd_same (H := H) (a := x) (o := .ins CH dx (putF "begin" (.int b) [])))
    have npx : p ≠ x := fun z => by
      rw [z, upd_same] at np
      cases np
    refine ⟨_, rfl, x, CH, dx, _, rfl, hx', HC.cl, HC.nR, by show 1 < 1000; decide, ?_⟩
    refine q p _ (by rw [upd_ne npx] at np; exact np) (fun c o n h => ?_) upd_same ((upd_ne npx).trans hp)
    rw [upd_ne n]
    exact s' _ _ (keep c o n h)
abbrev sHand_start : Stmt := inClass (topS 18) 1
abbrev nHand_start : List Str := ["self"]
theorem scHand_start : FnScope nHand_start ["self"] (defScope sHand_start) := ⟨rfl, rfl, rfl, by decide +kernel, rfl, by decide +kernel, by decide +kernel⟩
def spHStart (C : Addr) : Sp := fun vs H Q _ => ∃ (h : Addr) (b : Int) (ts : List Stp), vs = [.ref h] ∧ HandAt C H h b ts ∧ Q (.int b) H
theorem ok_hstart (F : Fun K "start" "Hand.start" sHand_start f fd) (HC : HandC K mg CH) : FnOk P w K mg base CX0 1 f fd ["self"] (spHStart CH) := by
  refine F.ok scHand_start (fun vs H Q E h => ?_) (fun cdv A outer s H vs Q E hr h => ?_)
  · obtain ⟨h, b, ts, rfl, _⟩ := h
    rfl
  · obtain ⟨h, b, ts, rfl, ⟨dx, r, xs, h1, h2, h3⟩, q⟩ := h
    refine ⟨_, (pss_one (ps_ret (pe_fld (pv 0) rfl))), ?_⟩
    exact ⟨_, rfl, h, CH, dx, _, _, rfl, h1, HC.cl, HC.nB, hfs_begin _ _, q⟩
abbrev sHand_steps : Stmt := inClass (topS 18) 2
abbrev nHand_steps : List Str := ["self"]
theorem scHand_steps : FnScope nHand_steps ["self"] (defScope sHand_steps) := ⟨rfl, rfl, rfl, by decide +kernel, rfl, by decide +kernel, by decide +kernel⟩
def spHSteps (C : Addr) : Sp := fun vs H Q _ => ∃ (h : Addr) (b : Int) (ts : List Stp), vs = [.ref h] ∧ HandAt C H h b ts ∧ ∀ r xs, H r = some (.tup xs) → Stps H xs ts → Q (.ref r) H
theorem ok_hsteps (F : Fun K "steps" "Hand.steps" sHand_steps f fd) (HC : HandC K mg CH) : FnOk P w K mg base CX0 1 f fd ["self"] (spHSteps CH) := by
  refine F.ok scHand_steps (fun vs H Q E h => ?_) (fun cdv A outer s H vs Q E hr h => ?_)
  · obtain ⟨h, b, ts, rfl, _⟩ := h
    rfl
  · obtain ⟨h, b, ts, rfl, ⟨dx, r, xs, h1, h2, h3⟩, q⟩ := h
    refine ⟨_, (pss_one (ps_ret (pe_fld (pv 0) rfl))), ?_⟩
    exact ⟨_, rfl, h, CH, dx, _, _, rfl, h1, HC.cl, HC.nR, hfs_row _ _, q r xs h2 h3⟩

/-! ### words -/
/-- a set comprehension over a tuple, its elements texts -/
theorem sc_tupS {Pp : Program} {w' : World} {K' : PySem.W.Frag} {a : Addr} {xs : List V} {j : Nat} {te : TE} {vs : List Nat} {σ : L2.St} {H1 : Hp} {D : Addr} {Qd : Hp → Prop} (zs : List Str) (hx : SqT K' H1 a xs) (hl : xs.length = zs.length) (hlen : xs.length ≤ 1000)
    (hw : ∀ x, wipe ((wipe σ vs).set j (some x)) vs = wipe σ vs)
    (step : ∀ (i : Nat) (x : V) (z : Str) (H : Hp), xs[i]? = some x → zs[i]? = some z → Same H1 H → ∀ Q : VK, Q (.str z) H → te ((wipe σ vs).set j (some x)) H Q)
    (hD : H1 D = none) (hd : ∀ H (ks : List Str), Same H1 H → H D = some (SetKo Pp w' D (ks.map Sum.inr)) → ks.Nodup → (∀ z, z ∈ ks ↔ z ∈ zs) → Qd H) :
    ∃ W : Nat → Nat → Hp → Prop, (∃ m, W 0 m (upd H1 D (SetKo Pp w' D []))) ∧ ∀ i m H, W i m H →
      ((Itt K' a).stop i H ∧ Qd H) ∨ ((Itt K' a).go i H ∧ ∃ Nx : Hp → Prop, (∀ H', Nx H' → ∃ m', m' < m ∧ W (i + 1) m' H') ∧ ∀ x H', (Itt K' a).yld i H x H' → gName j x (wipe σ vs) H' fun σ2 H2 => wipe σ2 vs = wipe σ vs ∧ tYes σ2 H2 fun b H3 =>
        if b = true then te σ2 H3 fun y H4 => ∃ (k : Key) (ks : List Key), y = kV k ∧ H4 D = some (SetKo Pp w' D ks) ∧ ks.length + 1 < scanBound ∧ Nx (upd H4 D (SetKo Pp w' D (insG k ks))) else Nx H3) := by
  let Pv : Nat → Hp → Prop := fun i H => Same H1 H ∧ ∃ ks : List Str, H D = some (SetKo Pp w' D (ks.map Sum.inr)) ∧ ks.Nodup ∧ (∀ z, z ∈ ks ↔ z ∈ zs.take i) ∧ ks.length ≤ i
  refine ⟨fun i m H => m = xs.length - i ∧ i ≤ xs.length ∧ Pv i H, ⟨_, rfl, Nat.zero_le _, same_upd hD, [], upd_same, List.nodup_nil, fun z => by simp, Nat.le_refl _⟩, ?_⟩
  rintro i m H ⟨rfl, hi, sm, ks, hk, nd, mem, kl⟩
  have hx' := Same.seqT sm hx
  by_cases h : i < xs.length
  · refine .inr ⟨⟨xs, xs[i], hx', List.getElem?_eq_getElem h⟩, Pv (i + 1), fun H' p' => ⟨_, by omega, rfl, by omega, p'⟩, ?_⟩
    rintro x H' ⟨rfl, hy⟩
    have hxi := hy xs hx'
    have hz : zs[i]? = some zs[i] := List.getElem?_eq_getElem (by omega)
    refine ⟨hw x, step i x _ H' hxi hz sm _ ⟨Sum.inr zs[i], ks.map Sum.inr, rfl, hk, ?_, ?_⟩⟩
    · rw [List.length_map]
      show ks.length + 1 < 4096
      omega
    · refine ⟨fun b o hb => ?_, insG zs[i] ks, ?_, nodup_insG nd, fun z => ?_, ?_⟩
      · rw [upd_ne (ne_of_none hb hD)]
        exact sm _ _ hb
      · rw [upd_same, insG_inr]
      · rw [mem_insG, mem, take_next hz, List.mem_append, List.mem_singleton]
        exact Or.comm
      · unfold insG
        split
        · omega
        · simp
          omega
  · have e : i = xs.length := by omega
    subst e
    refine .inl ⟨⟨xs, hx', Nat.le_refl _⟩, hd H ks sm hk nd fun z => ?_⟩
    rw [mem, hl, List.take_length]
abbrev sHand_words : Stmt := inClass (topS 18) 3
abbrev nHand_words : List Str := ["self", "step"]
theorem scHand_words : FnScope nHand_words ["self"] (defScope sHand_words) := ⟨rfl, rfl, rfl, by decide +kernel, rfl, by decide +kernel, by decide +kernel⟩
def spHWords (C : Addr) : Sp := fun vs H Q _ => ∃ (h : Addr) (b : Int) (ts : List Stp), vs = [.ref h] ∧ HandAt C H h b ts ∧ ts.length ≤ 1000 ∧ ∀ p H', H p = none → Same H H' → H' p = some (.lst ((wordsOf ts).map V.str)) → Q (.ref p) H'
theorem ok_hwords (F : Fun K "words" "Hand.words" sHand_words f fd) (HC : HandC K mg CH) (T : Bl mg) : FnOk P w K mg base CX0 1 f fd ["self"] (spHWords CH) := by
  refine F.ok scHand_words (fun vs H Q E h => ?_) (fun cdv A outer s H vs Q E hr h => ?_)
  · obtain ⟨h, b, ts, rfl, _⟩ := h
    rfl
  · obtain ⟨h, b, ts, rfl, ⟨dx, r, xs, h1, h2, h3⟩, hlen, q⟩ := h
    refine ⟨_, (pss_one (ps_ret (pe_callB (cr_sortedSt rfl (hu70 hr)) (by rfl) T.sorted (by decide +kernel) (pa_cons (pe_scK (own := [("step", 1)]) rfl scHand_words.nd (pi_tup (pe_fld (pv 0) rfl)) (blkOk_by (own := [("step", 1)]) (N := nHand_words) (sc := defScope sHand_words) (by decide +kernel)) (fun _ _ _ _ _ => (pg_name (i := 1) scHand_words.nd rfl (Or.inl rfl))) (fun _ _ _ _ _ => pts_nil) (fun _ _ _ _ _ => (pe_ix (r := rIxT K) ix_tup (pv 1) pe_int (fun _ _ => rfl)))) pa_nil)))), ?_⟩
    have hl : xs.length = ts.length := Paired.length h3
    refine ⟨_, rfl, h, CH, dx, _, _, rfl, h1, HC.cl, HC.nR, hfs_row _ _, r, rfl, ⟨_, SqT.of h2⟩, fun D1 hD1 => sc_tupS (ts.map (·.2.1)) (SqT.of h2) (by rw [List.length_map]; exact hl) (by omega) (fun _ => rfl) (fun i x z H2 hi hz s2 Q2 q2 => ?_) hD1 (fun H2 ks s2 hk nd mem => ?_)⟩
    · obtain ⟨t, ht, a, rfl, ha⟩ := paired_get h3 hi
      have ez : z = t.2.1 := by
        rw [List.getElem?_map, ht] at hz
        exact (Option.some.inj hz).symm
      subst ez
      exact ⟨_, rfl, a, _, 1, _, rfl, rfl, SqT.of (s2 _ _ ha), atI_nat (j := 1) rfl, q2⟩
    · refine ⟨D1, ks, rfl, hk, fun p ys py hp => ?_⟩
      refine q p _ (s2.free hp) (s2.trans (same_upd hp)) ?_
      rw [upd_same, srtD_strs, sortS_perm py, words_any nd mem]
abbrev sHand_eq : Stmt := inClass (topS 18) 4
abbrev nHand_eq : List Str := ["self", "other"]
theorem scHand_eq : FnScope nHand_eq ["self", "other"] (defScope sHand_eq) := ⟨rfl, rfl, rfl, by decide +kernel, rfl, by decide +kernel, by decide +kernel⟩
def spHEq (C : Addr) : Sp := fun vs H Q _ => ∃ (a b : Addr) (ba bb : Int) (ta tb : List Stp), vs = [.ref a, .ref b] ∧ HandAt C H a ba ta ∧ HandAt C H b bb tb ∧ (∀ t ∈ ta, StpOk t) ∧ (∀ t ∈ tb, StpOk t) ∧ ∀ H', Same H H' → Q (.bl (decide (ba = bb) && decide (sortT ta = sortT tb))) H'
theorem ok_heq (F : Fun K "__eq__" "Hand.__eq__" sHand_eq f fd) (HC : HandC K mg CH) (IHand : C8.InsC K CH) (T : Bl mg) : FnOk P w K mg base CX0 1 f fd ["self", "other"] (spHEq CH) := by
  refine F.ok scHand_eq (fun vs H Q E h => ?_) (fun cdv A outer s H vs Q E hr h => ?_)
  · obtain ⟨a, b, ba, bb, ta, tb, rfl, _⟩ := h
    rfl
  · obtain ⟨a, b, ba, bb, ta, tb, rfl, ⟨dx, r, xs, h1, h2, h3⟩, ⟨dy, r', ys, g1, g2, g3⟩, oka, okb, q⟩ := h
    refine ⟨_, (pss_one (ps_ret (pe_and (pe_callB (C8.call_isC IHand) (by rfl) T.isinstance (by decide +kernel) (pa_cons (pv 1) (pa_cons (pe_glob (v := .ref CH) (by rfl) HC.mgC rfl) pa_nil))) (pe_and (pe_cmpR op_eq (pe_fld (pv 0) rfl) (pe_fld (pv 1) rfl) (nomark _)) (pe_one (pe_cmpR (op_eqD hr.units) (pe_callB (cr_sortedD (hu70 hr)) (by rfl) T.sorted (by decide +kernel) (pa_cons (pe_fld (pv 0) rfl) pa_nil)) (pe_callB (cr_sortedD (hu70 hr)) (by rfl) T.sorted (by decide +kernel) (pa_cons (pe_fld (pv 1) rfl) pa_nil)) (nomark _))))))), ?_⟩
    refine ⟨_, rfl, b, dy, _, rfl, g1, _, rfl, ?_⟩
    refine ⟨_, rfl, a, CH, dx, _, _, rfl, h1, HC.cl, HC.nB, hfs_begin _ _, _, rfl, b, CH, dy, _, _, rfl, g1, HC.cl, HC.nB, hfs_begin _ _, rfl, _, rfl, ?_⟩
    by_cases hb : ba = bb
    · subst hb
      rw [decide_eq_true (rfl : V.int ba = V.int ba)]
      rw [decide_eq_true (rfl : ba = ba), Bool.true_and] at q
      obtain ⟨ps, rfl, rfl, hp⟩ := of_stps h3
      obtain ⟨qs, rfl, rfl, hq⟩ := of_stps g3
      refine ⟨_, rfl, a, CH, dx, _, _, rfl, h1, HC.cl, HC.nR, hfs_row _ _, r, encP ps, rfl, .inr (by rw [encP_fst]; exact SqT.of h2), fun x hx => ?_, (encP_sorts ps).1, (encP_sorts ps).2, fun x hx => ?_, fun p np => ?_⟩
      · obtain ⟨z, hz, rfl⟩ := List.mem_map.mp hx
        exact (hp z hz).dp
      · obtain ⟨z, hz, rfl⟩ := List.mem_map.mp hx
        show (encS z.2).depth ≤ 64
        rw [encS_depth]
        decide
      have s1 : Same H (upd H p (.lst (srtD (encP ps)))) := same_upd np
      refine ⟨_, rfl, b, CH, dy, _, _, rfl, s1 _ _ g1, HC.cl, HC.nR, hfs_row _ _, r', encP qs, rfl, .inr (by rw [encP_fst]; exact SqT.of (s1 _ _ g2)), fun x hx => ?_, (encP_sorts qs).1, (encP_sorts qs).2, fun x hx => ?_, fun p' np' => ?_⟩
      · obtain ⟨z, hz, rfl⟩ := List.mem_map.mp hx
        exact ((hq z hz).mono s1).dp
      · obtain ⟨z, hz, rfl⟩ := List.mem_map.mp hx
        show (encS z.2).depth ≤ 64
        rw [encS_depth]
        decide
      have s2 : Same (upd H p (.lst (srtD (encP ps)))) (upd (upd H p (.lst (srtD (encP ps)))) p' (.lst (srtD (encP qs)))) := same_upd np'
      have st1 := (srtD_stps hp).mono (s1.trans s2)
      have st2 := (srtD_stps hq).mono (s1.trans s2)
      have okp : ∀ t ∈ sortT (ps.map (·.2)), StpOk t := fun t ht => oka t ((List.mergeSort_perm _ _).mem_iff.mp ht)
      have okq : ∀ t ∈ sortT (qs.map (·.2)), StpOk t := fun t ht => okb t ((List.mergeSort_perm _ _).mem_iff.mp ht)
      refine ⟨_, _, .lst (SqL.of (s2 _ _ upd_same)) (Stps.dpAll st1), .lst (SqL.of upd_same) (Stps.dpAll st2), encSs_shaped okp, encSs_shaped okq, ?_⟩
      have e : PyData.eqv (.list ((sortT (ps.map (·.2))).map encS)) (.list ((sortT (qs.map (·.2))).map encS)) = decide (sortT (ps.map (·.2)) = sortT (qs.map (·.2))) := by
        simp only [PyData.eqv]
        exact eqv_stps _ _
      rw [e]
      exact q _ (s1.trans s2)
    · rw [decide_eq_false (fun e => hb (V.int.inj e))]
      rw [decide_eq_false hb, Bool.false_and] at q
      exact q H (Same.refl _)
end
end WW

set_option Elab.async false
set_option linter.all false
set_option maxRecDepth 100000
set_option maxHeartbeats 4000000
namespace WW
open PySem PySem.Spec PyProof.Rows L2
/-! ### rows of things, some of which are steps -/
theorem StepQ.mono {K : PySem.W.Frag} {H H' : Hp} {x : V} {b : Bool} (s : Same H H') (h : StepQ K H x b) : StepQ K H' x b := by
  cases h with
  | other k n => exact .other (k.mono s) n
  | len h l => exact .len (s _ _ h) l
  | three h k1 k2 k3 => exact .three (s _ _ h) (k1.mono s) (k2.mono s) (k3.mono s)
/-- a thing: the step t, or no step -/
inductive Tg (K : PySem.W.Frag) (H : Hp) : V → Option Stp → Prop
  | yes {v : V} {t : Stp} : IsStp H v t → StpOk t → Tg K H v (some t)
  | no {v : V} : StepQ K H v false → Tg K H v none
theorem Tg.mono {K : PySem.W.Frag} {H H' : Hp} {x : V} {o : Option Stp} (s : Same H H') (h : Tg K H x o) : Tg K H' x o := by
  cases h with
  | yes h k => exact .yes (h.mono s) k
  | no h => exact .no (h.mono s)
abbrev Tgs (K : PySem.W.Frag) (H : Hp) : List V → List (Option Stp) → Prop := Paired (Tg K H)
theorem Tgs.mono {K : PySem.W.Frag} {H H' : Hp} (s : Same H H') {xs : List V} {ts : List (Option Stp)} (h : Tgs K H xs ts) : Tgs K H' xs ts := L2.Paired.mapP h fun _ _ q => q.mono s
/-- what is handed in as a row: none, if it is no row or an empty one -/
inductive RowQ (K : PySem.W.Frag) (H : Hp) : V → Option (List (Option Stp)) → Prop
  | bad {x : V} {n : String} : Kd K H x n → n ≠ "list" → n ≠ "tuple" → RowQ K H x none
  | empty {a : Addr} : RowAt H a [] → RowQ K H (.ref a) none
  | row {a : Addr} {xs : List V} {os : List (Option Stp)} : RowAt H a xs → Tgs K H xs os → os ≠ [] → os.length ≤ 100 → RowQ K H (.ref a) (some os)
theorem RowQ.mono {K : PySem.W.Frag} {H H' : Hp} {x : V} {r : Option (List (Option Stp))} (s : Same H H') (h : RowQ K H x r) : RowQ K H' x r := by
  cases h with
  | bad k n m => exact .bad (k.mono s) n m
  | empty h => exact .empty (h.mono s)
  | row h t n l => exact .row (h.mono s) (t.mono s) n l
/-- the first place where something is wrong, the steps acc ahead of it -/
def badF (acc : List Stp) (i : Nat) : List (Option Stp) → Option Nat
  | [] => none
  | none :: _ => some i
  | some t :: r => if t ∈ acc ∨ cnt t.1 acc = 3 then some i else badF (acc ++ [t]) (i + 1) r
def dueR : Option (List (Option Stp)) → Option Int
  | none => some (-1)
  | some os => if 20 < os.length then some (-1) else Option.map (fun n : Nat => (n : Int)) (badF [] 0 os)
theorem kd_row {K : PySem.W.Frag} {H : Hp} {a : Addr} {xs : List V} (h : RowAt H a xs) : ∃ n, Kd K H (.ref a) n ∧ (n == "list" || n == "tuple") = true := by
  rcases h with h | h
  · exact ⟨_, kd_lst K h, rfl⟩
  · exact ⟨_, kd_tup K h, rfl⟩
theorem len_row {K : PySem.W.Frag} {H : Hp} {a : Addr} {xs : List V} (h : RowAt H a xs) : LenV K (.ref a) H xs.length := by
  rcases h with h | h
  · exact .inl ⟨_, SqL.of h, rfl⟩
  · exact .inr ⟨_, SqT.of h, rfl⟩
section
variable {P : Program} {w : World} {K : PySem.W.Frag} {mg : Str → Option Value} {base : Heap} {f fA fB fS CS CH CB : Addr} {fd fdA fdB fdS : FuncData}
def spGoodX (K : PySem.W.Frag) (CS : Addr) : Sp := fun vs H Q E => ∃ (v : V) (r : Option (List (Option Stp))), vs = [v] ∧ RowQ K H v r ∧
  (∀ i, dueR r = some i → ∀ d H', H d = none → Same H H' → H' d = some (.xd [("at", .int i)]) → E (.ref CS) (some d) H') ∧
  (∀ a xs ts, dueR r = none → v = .ref a → RowAt H a xs → Stps H xs ts → r = some (ts.map some) → (∀ t ∈ ts, StpOk t) → ∀ p H', H p = none → Same H H' → H' p = some (.tup xs) → Q (.ref p) H')
theorem ok_goodX (D : Df K mg "good_steps" sGood_steps ["steps"] f fd) (XBadSteps : ExcT P w K mg "BadSteps" CS fS "at" fdS) (DIs_row : Df K mg "is_row" sIs_row ["thing"] fA fdA) (GIs_row : FnOk P w K mg base CX0 1 fA fdA ["thing"] (spIsRow K))
    (DIs_step : Df K mg "is_step" sIs_step ["thing"] fB fdB) (GIs_step : FnOk P w K mg base CX0 4 fB fdB ["thing"] (spIsStep K)) (T : Bl mg) (C : Cst2 mg) : FnOk P w K mg base (L2.CX P w) 5 f fd ["steps"] (spGoodX K CS) := by
  obtain ⟨t1, hms⟩ := C.ms
  obtain ⟨t2, hmo⟩ := C.mo
  refine D.fn.okX scGood_steps (fun vs H Q E h => ?_) (fun cdv A outer s H vs Q E hr h => ?_)
  · obtain ⟨v, r, rfl, _⟩ := h
    rfl
  · obtain ⟨v, r, rfl, hR, qx, q⟩ := h
    refine ⟨_, (pss_cons (ps_if (PW.pt (pw_or (pt_not (pt_val (pe_df DIs_row GIs_row (hr.mono (by decide)) (pa_cons (pv 0) pa_nil)))) (pw_or1 (pt_not (pt_chain op_le op_le pe_int (pe_callB call_len (by rfl) T.len (by decide +kernel) (pa_cons (pv 0) pa_nil)) (pe_glob (v := .int 20) (by rfl) hms ⟨_, rfl⟩)))))) (pss_one (ps_raiseX XBadSteps (hr.mono (by decide)) (by rfl) rfl (takes_of rfl rfl rfl rfl) (pa_cons (pe_un un_neg pe_int) pa_nil))) pss_nil)
      (pss_cons (ps_set (i := 1) scGood_steps.nd rfl (Or.inl rfl) (pe_lst pa_nil))
      (pss_cons (ps_for (passes_of rfl) rfl (pi_enumD (by rfl) T.enumerate (pa_cons (pv 0) pa_nil)) (pg_tup rfl (pgs_cons (pg_name (i := 2) scGood_steps.nd rfl (Or.inl rfl)) (pgs_cons (pg_name (i := 3) scGood_steps.nd rfl (Or.inr rfl)) pgs_nil))) (pss_cons (ps_if (PW.pt (pw_or (pt_not (pt_val (pe_df DIs_step GIs_step (hr.mono (by decide)) (pa_cons (pv 3) pa_nil)))) (pw_or1 (pt_cmpR (op_inD (hu65 hr)) (pv 3) (pv 1) (by rfl))))) (pss_one (ps_raiseX XBadSteps (hr.mono (by decide)) (by rfl) rfl (takes_of rfl rfl rfl rfl) (pa_cons (pv 2) pa_nil))) pss_nil)
      (pss_cons (ps_if (pt_cmpR op_eq (pe_callB call_len (by rfl) T.len (by decide +kernel) (pa_cons (pe_lc (own := [("old", 4)]) rfl scGood_steps.nd (pi_list (pv 1)) (blkOk_by (own := [("old", 4)]) (N := nGood_steps) (sc := defScope sGood_steps) (by decide +kernel)) (fun _ _ _ _ _ => (pg_name (i := 4) scGood_steps.nd rfl (Or.inl rfl))) (fun _ _ _ _ _ => (pts_one (pt_cmpR op_eq (pe_ix (r := rIxT K) ix_tup (pv 4) pe_int (fun _ _ => rfl)) (pe_ix (r := rIxT K) ix_tup (pv 3) pe_int (fun _ _ => rfl)) (nomark _)))) (fun _ _ _ _ _ => (pv 4))) pa_nil)) (pe_glob (v := .int 3) (by rfl) hmo ⟨_, rfl⟩) (nomark _)) (pss_one (ps_raiseX XBadSteps (hr.mono (by decide)) (by rfl) rfl (takes_of rfl rfl rfl rfl) (pa_cons (pv 2) pa_nil))) pss_nil)
      (pss_one (ps_expr (pe_bm PySem.F.plainAttrs_list PySem.F.slot_list_append PySem.F.type_list_append mt_append (pv 1) (pa_cons (pv 3) pa_nil)))))))
      (pss_one (ps_ret (pe_callTy call_tuple_of (by rfl) T.tuple (by decide +kernel) (pa_cons (pv 1) pa_nil))))))), ?_⟩
    have bad1 : ∀ {H' : Hp} {Q' : XK}, Same H H' → dueR r = some (-1) → (∀ c d H'', E c d H'' → Q' c d H'') → ∀ d, H' d = none → Q' (.ref CS) (some d) (upd H' d (.xd [("at", .int (-1))])) := fun {H' Q'} s' e k d nd => k _ _ _ (qx _ e d _ (s'.free nd) (s'.trans (same_upd nd)) upd_same)
    cases hR with
    | @bad x n hk n1 n2 =>
      refine ⟨_, rfl, _, n, rfl, hk, fun H1 s1 => ?_⟩
      rw [beq_eq_false_iff_ne.mpr n1, beq_eq_false_iff_ne.mpr n2]
      exact ⟨_, rfl, _, rfl, mkx (bad1 s1 rfl fun _ _ _ z => z)⟩
    | @empty a hrow =>
      obtain ⟨n, hk, hn⟩ := kd_row (K := K) hrow
      refine ⟨_, rfl, _, n, rfl, hk, fun H1 s1 => ?_⟩
      rw [hn]
      refine ⟨_, rfl, _, rfl, _, 0, rfl, len_row (hrow.mono s1), _, _, rfl, rfl, _, rfl, ?_⟩
      exact ⟨_, rfl, _, rfl, mkx (bad1 s1 rfl fun _ _ _ z => z)⟩
    | @row a xs os hrow hx hne hl100 =>
      have hlx : xs.length = os.length := Paired.length hx
      have hl1 : 0 < os.length := List.length_pos_iff.mpr hne
      obtain ⟨n, hk, hn⟩ := kd_row (K := K) hrow
      refine ⟨_, rfl, _, n, rfl, hk, fun H1 s1 => ?_⟩
      rw [hn]
      have row1 := hrow.mono s1
      refine ⟨_, rfl, _, rfl, _, xs.length, rfl, len_row row1, _, _, rfl, rfl, _, rfl, ?_⟩
      rw [decide_eq_true (show (1 : Int) ≤ (xs.length : Int) by omega)]
      refine ⟨_, _, rfl, rfl, _, rfl, ?_⟩
      by_cases h20 : 20 < os.length
      · rw [decide_eq_false (show ¬ (xs.length : Int) ≤ 20 by omega)]
        exact ⟨_, rfl, mkx (bad1 s1 (by show (if 20 < os.length then some (-1) else _) = _; rw [if_pos h20]) fun _ _ _ z => z)⟩
      rw [decide_eq_true (show (xs.length : Int) ≤ 20 by omega)]
      have hdue : ∀ {o : Option Nat}, badF [] 0 os = o → dueR (some os) = Option.map (fun n : Nat => (n : Int)) o := fun {o} e => by
        show (if 20 < os.length then some (-1) else Option.map (fun n : Nat => (n : Int)) (badF [] 0 os)) = _
        rw [if_neg h20, e]
      refine ⟨Nat.zero_le _, fun l hl => ?_⟩
      obtain ⟨o, ho, hao⟩ : ∃ o, (o = HO.lst xs ∨ o = HO.tup xs) ∧ H1 a = some o := by
        rcases row1 with h | h
        · exact ⟨_, .inl rfl, h⟩
        · exact ⟨_, .inr rfl, h⟩
      have sl : Same H1 (upd H1 l (.lst [])) := same_upd hl
      refine ⟨_, rfl, for_enum (K := K) (a := a) (xs := xs) (fun i σ H' => ∃ v2 v3 v4 ts, σ = [some (.ref a), some (.ref l), v2, v3, v4] ∧ Same H1 H' ∧ H' l = some (.lst (xs.take i)) ∧ i ≤ xs.length ∧
        os.take i = ts.map some ∧ (∀ t ∈ ts, StpOk t) ∧ Stps H (xs.take i) ts ∧ badF [] 0 os = badF ts i (os.drop i)) ho (sl _ _ hao) ?_ ?_ ?_ ?_⟩
      · exact ⟨none, none, none, [], rfl, sl, upd_same, Nat.zero_le _, rfl, fun t h => by simp at h, .nil, rfl⟩
      · rintro i σ H' ⟨_, _, _, _, _, sm, _⟩
        exact sm _ _ hao
      · rintro i x T' σ H' hi ⟨v2, v3, v4, ts, rfl, sm, hl', hil, et, hts, hst, eb⟩ nT
        obtain ⟨o', ho', hxt⟩ := paired_get hx hi
        have hi' : i < os.length := (List.getElem?_eq_some_iff.mp ho').1
        have edrop : os.drop i = o' :: os.drop (i + 1) := by
          rw [List.drop_eq_getElem_cons hi', (List.getElem?_eq_some_iff.mp ho').2]
        have etake : os.take (i + 1) = os.take i ++ [o'] := take_next ho'
        have lts : ts.length = i := by
          have := congrArg List.length et
          rw [List.length_take, List.length_map] at this
          omega
        have sT : Same H' (upd H' T' (.tup [.int (i : Nat), x])) := same_upd nT
        refine ⟨T', _, rfl, SqT.of upd_same, rfl, _, _, rfl, _, _, rfl, rfl, ?_⟩
        have sH : Same H (upd H' T' (.tup [.int (i : Nat), x])) := s1.trans (sm.trans sT)
        have hlT := sT _ _ hl'
        have sm2 : Same H1 (upd H' T' (.tup [.int (i : Nat), x])) := sm.trans sT
        generalize upd H' T' (.tup [.int (i : Nat), x]) = H2 at sH hlT sm2 ⊢
        have bad2 : ∀ {H' : Hp} {Q' : XK}, Same H H' → badF ts i (os.drop i) = some i → (∀ c d H'', E c d H'' → Q' c d H'') → ∀ d, H' d = none → Q' (.ref CS) (some d) (upd H' d (.xd [("at", .int (i : Int))])) := fun {H' Q'} s' e k d nd =>
          k _ _ _ (qx _ (hdue (eb.trans e)) d _ (s'.free nd) (s'.trans (same_upd nd)) upd_same)
        cases hxt with
        | no hq =>
          refine ⟨_, rfl, x, false, rfl, hq.mono sH, fun H3 s3 => ⟨_, rfl, _, rfl, mkx (bad2 (sH.trans s3) ?_ fun _ _ _ z => z)⟩⟩
          rw [edrop]
          rfl
        | @yes t hst1 hok =>
          have eb1 : badF ts i (os.drop i) = if t ∈ ts ∨ cnt t.1 ts = 3 then some i else badF (ts ++ [t]) (i + 1) (os.drop (i + 1)) := by
            rw [edrop]
            rfl
          have hx2 : Stps H2 (xs.take i) ts := hst.mono sH
          refine ⟨_, rfl, x, true, rfl, (hst1.mono sH).stepQ K hok, fun H3 s3 => ⟨_, rfl, ?_⟩⟩
          refine ⟨_, rfl, _, rfl, _, _, (hst1.mono (sH.trans s3)).dp, .lst (SqL.of (s3 _ _ hlT)) (Stps.dpAll (hx2.mono s3)), encS_shaped hok, encSs_shaped hts, _, rfl, ?_⟩
          rw [any_encS]
          by_cases hm : t ∈ ts
          · rw [decide_eq_true hm]
            exact ⟨_, rfl, mkx (bad2 (sH.trans s3) (by rw [eb1, if_pos (.inl hm)]) fun _ _ _ z => z)⟩
          rw [decide_eq_false hm]
          have hl3 := s3 _ _ hlT
          have hx3 := hx2.mono s3
          have hxt3 := hst1.mono (sH.trans s3)
          obtain ⟨at3, rfl, ht3⟩ := id hxt3
          refine ⟨_, rfl, l, rfl, ⟨_, SqL.of hl3⟩, fun D1 hD1 => lc_pure (fstV H3 t.1) (SqL.of hl3) (by rw [List.length_take]; omega) (fun _ => rfl) (fun x0 H4 hx0 s4 Q4 q4 => ?_) hD1 (fun H4 s4 h4 => ?_)⟩
          · obtain ⟨t0, _, a0, rfl, ha0⟩ := paired_memL hx3 x0 hx0
            have e0 : fstV H3 t.1 (.ref a0) = if decide (V.int t0.1 = V.int t.1) = true then some (.ref a0) else none := by
              unfold fstV
              simp only [ha0, stpV]
            refine ⟨_, rfl, a0, _, 0, _, rfl, rfl, SqT.of (s4 _ _ ha0), atI_nat (j := 0) rfl, _, rfl, at3, _, 0, _, rfl, rfl, SqT.of (s4 _ _ ht3), atI_nat (j := 0) rfl, rfl, _, rfl, ite2 (fun c => ⟨_, rfl, ?_⟩) (fun c => ?_)⟩
            · have := q4 H4 (Same.refl _)
              rw [e0, if_pos c] at this
              exact this
            · have := q4 H4 (Same.refl _)
              rw [e0, if_neg c] at this
              exact this
          · have hlen := fstV_len (H := H3) t.1 hx3
            refine ⟨_, _, rfl, .inl ⟨_, SqL.of h4, rfl⟩, rfl, _, rfl, ?_⟩
            by_cases h3 : cnt t.1 ts = 3
            · rw [decide_eq_true (show V.int (((xs.take i).filterMap (fstV H3 t.1)).length : Int) = V.int 3 by rw [hlen, h3]; rfl)]
              exact ⟨_, rfl, mkx (bad2 (sH.trans (s3.trans s4)) (by rw [eb1, if_pos (.inr h3)]) fun _ _ _ z => z)⟩
            rw [decide_eq_false (show ¬ V.int (((xs.take i).filterMap (fstV H3 t.1)).length : Int) = V.int 3 from fun e => by
              have e1 := V.int.inj e
              rw [hlen] at e1
              omega)]
            refine ⟨_, rfl, .inl ⟨rfl, _, SqL.of (s4 _ _ hl3)⟩, _, rfl, l, _, _, rfl, rfl, s4 _ _ hl3, small1000 (by rw [List.length_take]; omega), ?_⟩
            refine ⟨_, _, _, ts ++ [t], rfl, fun b ob hb => ?_, by rw [upd_same, take_next hi], by omega, ?_, ?_, ?_, ?_⟩
            · rw [upd_ne (ne_of_none hb hl)]
              exact s4 _ _ (s3 _ _ (sm2 _ _ hb))
            · rw [etake, et, List.map_append]
              rfl
            · intro u hu
              rcases List.mem_append.mp hu with h | h
              · exact hts u h
              · rw [List.mem_singleton.mp h]
                exact hok
            · rw [take_next hi]
              exact paired_snoc hst hst1
            · rw [eb, eb1, if_neg (fun z => z.elim hm h3)]
      · rintro σ H' ⟨v2, v3, v4, ts, rfl, sm, hl', hil, et, hts, hst, eb⟩
        rw [List.take_length] at hl' hst
        rw [hlx, List.take_length] at et
        rw [hlx, List.drop_length] at eb
        refine ⟨_, rfl, l, _, rfl, .inl ⟨SqL.of hl', fun p hp => ?_⟩⟩
        exact q a xs ts (hdue eb) rfl hrow hst (by rw [et]) hts p _ ((s1.trans sm).free hp) ((s1.trans sm).trans (same_upd hp)) upd_same
end
end WW

set_option Elab.async false
set_option linter.all false
set_option maxRecDepth 100000
set_option maxHeartbeats 4000000
namespace WW
open PySem PySem.Spec PyProof.Rows L2
section
variable {P : Program} {w : World} {K : PySem.W.Frag} {mg : Str → Option Value} {base : Heap} {f fA fB fS fT CS CH CB : Addr} {fd fdA fdB fdS fdT : FuncData}
/-- all but x stays -/
def KeepB (x : Addr) (H H' : Hp) : Prop := ∀ c o, c ≠ x → H c = some o → H' c = some o
def spHInitX (K : PySem.W.Frag) (CH CB CS : Addr) : Sp := fun vs H Q E => ∃ (x dx : Addr) (S : Hp) (st v : V) (n : String) (r : Option (List (Option Stp))), vs = [.ref x, st, v] ∧ H x = some (.ins CH dx []) ∧ Same S H ∧ S x = none ∧ Kd K S st n ∧ RowQ K S v r ∧
  (btw 0 99 st = false → ∀ d H', H d = none → KeepB x H H' → H' d = some (.xd [("value", st)]) → E (.ref CB) (some d) H') ∧
  (btw 0 99 st = true → ∀ i, dueR r = some i → ∀ d H', H d = none → KeepB x H H' → H' d = some (.xd [("at", .int i)]) → E (.ref CS) (some d) H') ∧
  (∀ b a xs ts, st = .int b → 0 ≤ b ∧ b ≤ 99 → dueR r = none → v = .ref a → RowAt S a xs → Stps S xs ts → r = some (ts.map some) → (∀ t ∈ ts, StpOk t) → ∀ p H', H p = none → KeepB x H H' → H' x = some (.ins CH dx (hfs b p)) → H' p = some (.tup xs) → Q .non H')
theorem btw_int {lo hi : Int} {x : V} (h : btw lo hi x = true) : ∃ b, x = .int b ∧ lo ≤ b ∧ b ≤ hi := by
  unfold btw at h
  split at h
  · rename_i i
    rw [Bool.and_eq_true, decide_eq_true_eq, decide_eq_true_eq] at h
    exact ⟨i, rfl, h.1, h.2⟩
  · cases h
theorem RowQ.row_inv {K : PySem.W.Frag} {S : Hp} {v : V} {os : List (Option Stp)} (h : RowQ K S v (some os)) : ∃ a xs, v = .ref a ∧ RowAt S a xs ∧ Tgs K S xs os := by
  cases h with
  | row h t n l => exact ⟨_, _, rfl, h, t⟩
theorem Tgs.stps {K : PySem.W.Frag} {S : Hp} : ∀ {xs : List V} {ts : List Stp}, Tgs K S xs (ts.map some) → Stps S xs ts
  | _, [], h => by
    cases h
    exact .nil
  | _, t :: r, h => by
    cases h with
    | cons h1 h2 =>
      cases h1 with
      | yes a b => exact .cons a (Tgs.stps h2)
theorem ok_hinitX (F : Fun K "__init__" "Hand.__init__" sHand_init f fd) (HC : HandC K mg CH) (XBadStart : ExcT P w K mg "BadStart" CB fT "value" fdT) (DIs_state : Df K mg "is_state" sIs_state ["thing"] fA fdA) (GIs_state : FnOk P w K mg base CX0 3 fA fdA ["thing"] (spIsState K))
    (DGood_steps : Df K mg "good_steps" sGood_steps ["steps"] fB fdB) (GGood_steps : FnOk P w K mg base (L2.CX P w) 5 fB fdB ["steps"] (spGoodX K CS)) : FnOk P w K mg base (L2.CX P w) 6 f fd ["self", "start", "steps"] (spHInitX K CH CB CS) := by
  refine F.okX scHand_init (fun vs H Q E h => ?_) (fun cdv A outer s H vs Q E hr h => ?_)
  · obtain ⟨x, dx, S, st, v, n, r, rfl, _⟩ := h
    rfl
  · obtain ⟨x, dx, S, st, v, n, r, rfl, hx, sS, nx, hk, hR, q1, q2, q3⟩ := h
    refine ⟨_, (pss_cons (ps_if (pt_not (pt_val (pe_df DIs_state GIs_state (hr.mono (by decide)) (pa_cons (pv 1) pa_nil)))) (pss_one (ps_raiseX XBadStart (hr.mono (by decide)) (by rfl) rfl (takes_of rfl rfl rfl rfl) (pa_cons (pv 1) pa_nil))) pss_nil)
      (pss_cons (ps_fld (pv 0) (pv 1) rfl)
      (pss_one (ps_fld (pv 0) (pe_dfS DGood_steps GGood_steps (hr.mono (by decide)) (takes_of rfl rfl rfl rfl) (pa_cons (pv 2) pa_nil)) rfl)))), ?_⟩
    refine ⟨_, rfl, _, n, rfl, hk.mono sS, ?_⟩
    have ndx : ∀ {d : Addr} {H' : Hp}, H' d = none → H' x ≠ none → d ≠ x := fun {d H'} a b z => b (by rw [← z]; exact a)
    cases hb : btw 0 99 st with
    | false =>
      refine ⟨_, rfl, _, rfl, mkx fun d nd => q1 hb d _ nd (fun c o _ h => ?_) upd_same⟩
      rw [upd_ne (ne_of_none h nd)]
      exact h
    | true =>
      obtain ⟨b, rfl, b0, b1⟩ := btw_int hb
      refine ⟨_, rfl, ?_⟩
      refine ⟨_, rfl, _, rfl, x, CH, dx, [], rfl, hx, HC.cl, HC.nB, by show 0 < 1000; decide, ?_⟩
      have keep : KeepB x H (upd H x (.ins CH dx (putF "begin" (.int b) []))) := fun c o n h => (upd_ne n).trans h
      have sS1 : Same S (upd H x (.ins CH dx (putF "begin" (.int b) []))) := fun c o h => keep c o (ne_of_none h nx) (sS _ _ h)
      have hx1 : upd H x (.ins CH dx (putF "begin" (.int b) [])) x = some (.ins CH dx (putF "begin" (.int b) [])) := upd_same
      have nn : ∀ {d : Addr}, upd H x (.ins CH dx (putF "begin" (.int b) [])) d = none → H d = none ∧ d ≠ x := fun {d} h => by
        have hd : d ≠ x := fun z => by
          rw [z, upd_same] at h
          cases h
        rw [upd_ne hd] at h
        exact ⟨h, hd⟩
      refine ⟨_, rfl, v, r, rfl, hR.mono sS1, fun i hi d H' nd s' hd => ?_, fun a xs ts hdue hv hrow hst hr' hok p H' np s' hp => ?_⟩
      · exact q2 hb i hi d H' (nn nd).1 (fun c o n h => s' _ _ (keep c o n h)) hd
      · obtain ⟨np1, npx⟩ := nn np
        refine ⟨_, rfl, x, CH, dx, _, rfl, s' _ _ hx1, HC.cl, HC.nR, by show 1 < 1000; decide, ?_⟩
        subst hr'
        obtain ⟨a', xs', ev, hrS, htg⟩ := hR.row_inv
        have hstS := htg.stps
        have hrow1 := hrS.mono sS1
        rw [hv] at ev
        cases ev
        have exs : xs' = xs := by
          rcases hrow with h | h <;> rcases hrow1 with h' | h' <;> rw [h] at h' <;> cases h' <;> rfl
        subst exs
        refine q3 b a xs' ts rfl ⟨b0, b1⟩ hdue hv hrS hstS rfl hok p _ np1 (fun c o n h => ?_) upd_same ((upd_ne npx).trans hp)
        rw [upd_ne n]
        exact s' _ _ (keep c o n h)
end
end WW

set_option Elab.async false
set_option linter.all false
set_option maxRecDepth 100000
set_option maxHeartbeats 4000000
namespace WW
open PySem PySem.Spec PyProof.Rows L2
section
variable {P : Program} {w : World} {K : PySem.W.Frag} {mg : Str → Option Value} {base : Heap} {f fA fB fC : Addr} {fd fdA fdB fdC : FuncData}
abbrev sLwhole : Stmt := topS 25
abbrev nLwhole : List Str := ["_law_thing"]
theorem scLwhole : FnScope nLwhole ["_law_thing"] (defScope sLwhole) := ⟨rfl, rfl, rfl, by decide +kernel, rfl, by decide +kernel, by decide +kernel⟩
theorem ok_whole (D : Df K mg "_law_whole" sLwhole ["_law_thing"] f fd) (T : Bl mg) : FnOk P w K mg base CX0 1 f fd ["_law_thing"] (spIsInteger K) := by
  refine D.fn.ok scLwhole (fun vs H Q E h => ?_) (fun cdv A outer s H vs Q E hr h => ?_)
  · obtain ⟨x, n, rfl, _⟩ := h
    rfl
  · obtain ⟨x, n, rfl, hk, q⟩ := h
    refine ⟨_, (pss_one (ps_ret (pe_and (pe_callB call_isi (by rfl) T.isinstance (by decide +kernel) (pa_cons (pv 0) (pa_cons (pe_bltn (v := .ty "int") (by rfl) T.int (by decide +kernel) rfl) pa_nil))) (pe_one (pe_not (pe_callB call_isi (by rfl) T.isinstance (by decide +kernel) (pa_cons (pv 0) (pa_cons (pe_bltn (v := .ty "bool") (by rfl) T.bool (by decide +kernel) rfl) pa_nil)))))))), ?_⟩
    refine ⟨_, rfl, _, _, _, _, _, rfl, .ty "int", hk.1, kit_int hk.2.1, _, rfl, ?_⟩
    refine ite2 (fun c => ?_) (fun c => ?_)
    · refine ⟨_, rfl, _, _, _, _, _, rfl, .ty "bool", hk.1, kit_bool hk.2.1, _, rfl, ?_⟩
      have e : (!(n == "bool")) = (n == "int") := by
        rcases Bool.or_eq_true_iff.mp c with h | h
        · rw [beq_iff_eq.mp h]
          decide
        · rw [beq_iff_eq.mp h]
          decide
      show Q (.bl (!(n == "bool"))) H
      rw [e]
      exact q
    · have e : (n == "int") = false := by
        cases h : n == "int" with
        | false => rfl
        | true => exact absurd (by rw [h]; rfl) c
      show Q (.bl false) H
      rw [← e]
      exact q
abbrev sLis_state : Stmt := topS 26
abbrev nLis_state : List Str := ["_law_thing"]
theorem scLis_state : FnScope nLis_state ["_law_thing"] (defScope sLis_state) := ⟨rfl, rfl, rfl, by decide +kernel, rfl, by decide +kernel, by decide +kernel⟩
theorem ok_lstate (D : Df K mg "_law_is_state" sLis_state ["_law_thing"] f fd) (DLwhole : Df K mg "_law_whole" sLwhole ["_law_thing"] fA fdA) (T : Bl mg) : FnOk P w K mg base CX0 2 f fd ["_law_thing"] (spIsState K) := by
  have GLwhole : FnOk P w K mg base CX0 1 fA fdA ["_law_thing"] (spIsInteger K) := ok_whole DLwhole T
  refine D.fn.ok scLis_state (fun vs H Q E h => ?_) (fun cdv A outer s H vs Q E hr h => ?_)
  · obtain ⟨x, n, rfl, _⟩ := h
    rfl
  · obtain ⟨x, n, rfl, hk, q⟩ := h
    refine ⟨_, (pss_one (ps_ret (pe_and (pe_df DLwhole GLwhole (hr.mono (by decide)) (pa_cons (pv 0) pa_nil)) (pe_one (pe_chain op_le op_le pe_int (pv 0) pe_int))))), ?_⟩
    refine ⟨_, rfl, x, n, rfl, hk, _, rfl, ite2 (fun c => ?_) (fun c => ?_)⟩
    · have en : n = "int" := beq_iff_eq.mp c
      subst en
      obtain ⟨i, rfl⟩ := kd_is_int hk
      refine ⟨_, rfl, _, _, rfl, rfl, _, rfl, ?_⟩
      by_cases h1 : (0 : Int) ≤ i
      · rw [decide_eq_true h1]
        refine ⟨_, _, rfl, rfl, ?_⟩
        have e : btw 0 99 (.int i) = decide (i ≤ 99) := by
          show (decide (0 ≤ i) && decide (i ≤ 99)) = _
          rw [decide_eq_true h1]
          rfl
        rw [e] at q
        exact q
      · rw [decide_eq_false h1]
        have e : btw 0 99 (.int i) = false := by
          show (decide (0 ≤ i) && decide (i ≤ 99)) = _
          rw [decide_eq_false h1]
          rfl
        rw [e] at q
        exact q
    · have e : btw 0 99 x = false := by
        have hn := kd_not_int hk (fun z => c (by rw [z]; rfl))
        cases x with
        | int i => exact absurd rfl (hn i)
        | _ => rfl
      rw [e] at q
      exact q
abbrev sLis_name : Stmt := topS 27
abbrev nLis_name : List Str := ["_law_thing", "_law_letter"]
theorem scLis_name : FnScope nLis_name ["_law_thing"] (defScope sLis_name) := ⟨rfl, rfl, rfl, by decide +kernel, rfl, by decide +kernel, by decide +kernel⟩
def noSm (v : V) : Option V := match v with
  | .str ⟨#[c]⟩ => if c ∈ smallS.cps.toList then none else some v
  | _ => none
theorem noSm_len (z : Str) : decide (((signs z).filterMap noSm).length = 0) = z.cps.toList.all fun c => decide (c ∈ smallS.cps.toList) := by
  unfold signs
  induction z.cps.toList with
  | nil => rfl
  | cons c r ih =>
    simp only [List.map_cons, List.filterMap_cons, List.all_cons]
    by_cases h : c ∈ smallS.cps.toList
    · have e : noSm (.str ⟨#[c]⟩) = none := by show (if c ∈ smallS.cps.toList then _ else _) = _; rw [if_pos h]
      rw [e, decide_eq_true h]
      exact ih
    · have e : noSm (.str ⟨#[c]⟩) = some (.str ⟨#[c]⟩) := by show (if c ∈ smallS.cps.toList then _ else _) = _; rw [if_neg h]
      rw [e, decide_eq_false h]
      simp
theorem ok_lname (D : Df K mg "_law_is_name" sLis_name ["_law_thing"] f fd) (T : Bl mg) : FnOk P w K mg base CX0 1 f fd ["_law_thing"] (spIsName K) := by
  refine D.fn.ok scLis_name (fun vs H Q E h => ?_) (fun cdv A outer s H vs Q E hr h => ?_)
  · obtain ⟨x, n, rfl, _⟩ := h
    rfl
  · obtain ⟨x, n, rfl, hk, q⟩ := h
    refine ⟨_, (pss_cons (ps_if (PW.pt (pw_or (pt_not (pt_val (pe_callB call_isi (by rfl) T.isinstance (by decide +kernel) (pa_cons (pv 0) (pa_cons (pe_bltn (v := .ty "str") (by rfl) T.str (by decide +kernel) rfl) pa_nil))))) (pw_or (pt_cmpR op_lt (pe_callB call_len (by rfl) T.len (by decide +kernel) (pa_cons (pv 0) pa_nil)) pe_int (nomark _)) (pw_or1 (pt_cmpR op_gt (pe_callB call_len (by rfl) T.len (by decide +kernel) (pa_cons (pv 0) pa_nil)) pe_int (nomark _)))))) (pss_one (ps_ret pe_bl)) pss_nil)
      (pss_one (ps_ret (pe_cmpR op_eq (pe_callB call_len (by rfl) T.len (by decide +kernel) (pa_cons (pe_lc (own := [("_law_letter", 1)]) rfl scLis_name.nd (pi_str (pv 0)) (blkOk_by (own := [("_law_letter", 1)]) (N := nLis_name) (sc := defScope sLis_name) (by decide +kernel)) (fun _ _ _ _ _ => (pg_name (i := 1) scLis_name.nd rfl (Or.inl rfl))) (fun _ _ _ _ _ => (pts_one (pt_cmpR op_notIn_sign (pv 1) pe_str (by rfl)))) (fun _ _ _ _ _ => (pv 1))) pa_nil)) pe_int (nomark _))))), ?_⟩
    refine ⟨_, rfl, _, _, _, _, _, rfl, .ty "str", hk.1, kit_str hk.2.1, _, rfl, ?_⟩
    by_cases en : n = "str"
    · subst en
      obtain ⟨z, rfl⟩ := kd_is_str hk
      have hl := hk.2.2 z rfl
      have e0 : isNm (.str z) = (decide (1 ≤ z.length) && decide (z.length ≤ 10) && z.cps.toList.all fun c => decide (c ∈ smallS.cps.toList)) := rfl
      refine ⟨_, rfl, _, _, rfl, ⟨hl, rfl⟩, _, _, rfl, rfl, _, rfl, ?_⟩
      by_cases h1 : (z.length : Int) < 1
      · rw [decide_eq_true h1]
        rw [e0, decide_eq_false (show ¬ 1 ≤ z.length by omega)] at q
        exact q H (Same.refl _)
      · rw [decide_eq_false h1]
        refine ⟨_, rfl, _, _, rfl, ⟨hl, rfl⟩, _, _, rfl, rfl, _, rfl, ?_⟩
        by_cases h2 : (10 : Int) < (z.length : Int)
        · rw [decide_eq_true h2]
          rw [e0, decide_eq_false (show ¬ z.length ≤ 10 by omega), Bool.and_false] at q
          exact q H (Same.refl _)
        · rw [decide_eq_false h2]
          refine ⟨_, rfl, z, rfl, fun D1 hD1 => lc_pureS noSm (by omega) (fun _ => rfl) (fun y H2 hy s2 Q2 q2 => ?_) hD1 (fun H2 s2 h2' => ?_)⟩
          · obtain ⟨c, hc, rfl⟩ := List.mem_map.mp hy
            have qq := q2 H2 (Same.refl _)
            refine ⟨_, rfl, c, smallS, rfl, rfl, _, rfl, ?_⟩
            by_cases h : c ∈ smallS.cps.toList
            · have e : noSm (.str ⟨#[c]⟩) = none := by show (if c ∈ smallS.cps.toList then _ else _) = _; rw [if_pos h]
              rw [e] at qq
              rw [decide_eq_true h]
              exact qq
            · have e : noSm (.str ⟨#[c]⟩) = some (.str ⟨#[c]⟩) := by show (if c ∈ smallS.cps.toList then _ else _) = _; rw [if_neg h]
              rw [e] at qq
              rw [decide_eq_false h]
              exact ⟨_, rfl, qq⟩
          · refine ⟨_, _, rfl, .inl ⟨_, SqL.of h2', rfl⟩, rfl, ?_⟩
            rw [e0, decide_eq_true (show 1 ≤ z.length by omega), decide_eq_true (show z.length ≤ 10 by omega), ← noSm_len] at q
            have e3 : decide (V.int (((signs z).filterMap noSm).length : Int) = V.int 0) = decide (((signs z).filterMap noSm).length = 0) := by
              by_cases h : ((signs z).filterMap noSm).length = 0
              · rw [decide_eq_true h, decide_eq_true (by rw [h]; rfl)]
              · rw [decide_eq_false h, decide_eq_false (fun e => h (by injection e; omega))]
            rw [e3]
            exact q H2 s2
    · have e1 : (n == "str") = false := beq_eq_false_iff_ne.mpr en
      have e2 : isNm x = false := by
        have hn := kd_not_str hk en
        cases x with
        | str z => exact absurd rfl (hn z)
        | _ => rfl
      rw [e1]
      rw [e2] at q
      exact q H (Same.refl _)
abbrev sLis_step : Stmt := topS 28
abbrev nLis_step : List Str := ["_law_thing"]
theorem scLis_step : FnScope nLis_step ["_law_thing"] (defScope sLis_step) := ⟨rfl, rfl, rfl, by decide +kernel, rfl, by decide +kernel, by decide +kernel⟩
theorem ok_lstep (D : Df K mg "_law_is_step" sLis_step ["_law_thing"] f fd) (DLis_state : Df K mg "_law_is_state" sLis_state ["_law_thing"] fA fdA) (GLis_state : FnOk P w K mg base CX0 2 fA fdA ["_law_thing"] (spIsState K))
    (DLis_name : Df K mg "_law_is_name" sLis_name ["_law_thing"] fB fdB) (GLis_name : FnOk P w K mg base CX0 1 fB fdB ["_law_thing"] (spIsName K)) (T : Bl mg) : FnOk P w K mg base CX0 3 f fd ["_law_thing"] (spIsStep K) := by
  refine D.fn.ok scLis_step (fun vs H Q E h => ?_) (fun cdv A outer s H vs Q E hr h => ?_)
  · obtain ⟨x, b, rfl, _⟩ := h
    rfl
  · obtain ⟨x, b, rfl, hk, q⟩ := h
    refine ⟨_, (pss_cons (ps_if (PW.pt (pw_or (pt_not (pt_val (pe_callB call_isi (by rfl) T.isinstance (by decide +kernel) (pa_cons (pv 0) (pa_cons (pe_bltn (v := .ty "tuple") (by rfl) T.tuple (by decide +kernel) rfl) pa_nil))))) (pw_or1 (pt_cmpR op_ne (pe_callB call_len (by rfl) T.len (by decide +kernel) (pa_cons (pv 0) pa_nil)) pe_int (nomark _))))) (pss_one (ps_ret pe_bl)) pss_nil)
      (pss_one (ps_ret (pe_and (pe_df DLis_state GLis_state (hr.mono (by decide)) (pa_cons (pe_ix ix_tup (pv 0) pe_int (fun _ _ => rfl)) pa_nil)) (pe_and (pe_df DLis_name GLis_name (hr.mono (by decide)) (pa_cons (pe_ix ix_tup (pv 0) pe_int (fun _ _ => rfl)) pa_nil)) (pe_one (pe_df DLis_state GLis_state (hr.mono (by decide)) (pa_cons (pe_ix ix_tup (pv 0) pe_int (fun _ _ => rfl)) pa_nil)))))))), ?_⟩
    cases hk with
    | @other x n hk hn =>
      refine ⟨_, rfl, _, _, _, _, _, rfl, .ty "tuple", hk.1, kit_tuple hk.2.1, _, rfl, ?_⟩
      rw [beq_eq_false_iff_ne.mpr hn]
      exact q H (Same.refl _)
    | @len a xs ha hl =>
      refine ⟨_, rfl, _, _, _, _, _, rfl, .ty "tuple", (kd_tup K ha).1, kit_tuple (kd_tup K ha).2.1, _, rfl, ?_⟩
      refine ⟨_, rfl, _, _, rfl, .inr ⟨_, SqT.of ha, rfl⟩, rfl, _, rfl, ?_⟩
      rw [decide_eq_false (show ¬ V.int (xs.length : Int) = V.int 3 from fun e => hl (by injection e; omega))]
      exact q H (Same.refl _)
    | @three a u v y n1 n2 n3 ha k1 k2 k3 =>
      refine ⟨_, rfl, _, _, _, _, _, rfl, .ty "tuple", (kd_tup K ha).1, kit_tuple (kd_tup K ha).2.1, _, rfl, ?_⟩
      refine ⟨_, rfl, _, _, rfl, .inr ⟨_, SqT.of ha, rfl⟩, rfl, _, rfl, ?_⟩
      refine ⟨_, rfl, a, _, 0, _, rfl, rfl, SqT.of ha, atI_nat (j := 0) rfl, u, n1, rfl, k1, _, rfl, ?_⟩
      cases c1 : btw 0 99 u with
      | false =>
        rw [c1] at q
        exact q H (Same.refl _)
      | true =>
        refine ⟨_, rfl, a, _, 1, _, rfl, rfl, SqT.of ha, atI_nat (j := 1) rfl, v, n2, rfl, k2, fun H1 s1 => ⟨_, rfl, ?_⟩⟩
        cases c2 : isNm v with
        | false =>
          rw [c1, c2] at q
          exact q H1 s1
        | true =>
          rw [c1, c2] at q
          exact ⟨_, rfl, a, _, 2, _, rfl, rfl, SqT.of (s1 _ _ ha), atI_nat (j := 2) rfl, y, n3, rfl, k3.mono s1, q H1 s1⟩
end
end WW

set_option Elab.async false
set_option linter.all false
set_option maxRecDepth 100000
set_option maxHeartbeats 4000000
namespace WW
open PySem PySem.Spec PyProof.Rows L2
/-- what is due: the word and the thing -/
def dueV (st : V) (r : Option (List (Option Stp))) : Str × V :=
  if btw 0 99 st = true then (match dueR r with | some i => ((("steps" : Str), V.int i) : Str × V) | none => ((("hand" : Str), V.int 0) : Str × V)) else ((("start" : Str), st) : Str × V)
theorem dueV_start {st : V} {r : Option (List (Option Stp))} (h : btw 0 99 st = false) : dueV st r = ((("start" : Str), st) : Str × V) := by
  unfold dueV
  rw [h]
  rfl
theorem dueV_steps {st : V} {r : Option (List (Option Stp))} {i : Int} (h : btw 0 99 st = true) (e : dueR r = some i) : dueV st r = ((("steps" : Str), V.int i) : Str × V) := by
  unfold dueV
  rw [if_pos h, e]
theorem dueV_hand {st : V} {r : Option (List (Option Stp))} (h : btw 0 99 st = true) (e : dueR r = none) : dueV st r = ((("hand" : Str), V.int 0) : Str × V) := by
  unfold dueV
  rw [if_pos h, e]
section
variable {P : Program} {w : World} {K : PySem.W.Frag} {mg : Str → Option Value} {base : Heap} {f fA fB fC : Addr} {fd fdA fdB fdC : FuncData}
abbrev sLdue : Stmt := topS 29
abbrev nLdue : List Str := ["_law_start", "_law_steps", "_law_at", "_law_old"]
theorem scLdue : FnScope nLdue ["_law_start", "_law_steps"] (defScope sLdue) := ⟨rfl, rfl, rfl, by decide +kernel, rfl, by decide +kernel, by decide +kernel⟩
def spDue (K : PySem.W.Frag) : Sp := fun vs H Q _ => ∃ (st v : V) (n : String) (r : Option (List (Option Stp))), vs = [st, v] ∧ Kd K H st n ∧ RowQ K H v r ∧ (∀ a xs, v = .ref a → H a = some (.tup xs) → r = none) ∧
  ∀ p H', H p = none → Same H H' → H' p = some (.tup [.str (dueV st r).1, (dueV st r).2]) → Q (.ref p) H'
theorem ok_due (D : Df K mg "_law_due" sLdue ["_law_start", "_law_steps"] f fd) (DLis_state : Df K mg "_law_is_state" sLis_state ["_law_thing"] fA fdA) (GLis_state : FnOk P w K mg base CX0 2 fA fdA ["_law_thing"] (spIsState K))
    (DLis_step : Df K mg "_law_is_step" sLis_step ["_law_thing"] fB fdB) (GLis_step : FnOk P w K mg base CX0 3 fB fdB ["_law_thing"] (spIsStep K)) (T : Bl mg) : FnOk P w K mg base CX0 4 f fd ["_law_start", "_law_steps"] (spDue K) := by
  refine D.fn.ok scLdue (fun vs H Q E h => ?_) (fun cdv A outer s H vs Q E hr h => ?_)
  · obtain ⟨st, v, n, r, rfl, _⟩ := h
    rfl
  · obtain ⟨st, v, n, r, rfl, hk, hR, hnt, q⟩ := h
    refine ⟨_, (pss_cons (ps_if (pt_not (pt_val (pe_df DLis_state GLis_state (hr.mono (by decide)) (pa_cons (pv 0) pa_nil)))) (pss_one (ps_ret (pe_tup (pa_cons pe_str (pa_cons (pv 0) pa_nil))))) pss_nil)
      (pss_cons (ps_if (PW.pt (pw_or (pt_not (pt_val (pe_callB call_isiT (by rfl) T.isinstance (by decide +kernel) (pa_cons (pv 1) (pa_cons (pe_tup (pa_cons (pe_bltn (v := .ty "list") (by rfl) T.list (by decide +kernel) rfl) (pa_cons (pe_bltn (v := .ty "tuple") (by rfl) T.tuple (by decide +kernel) rfl) pa_nil))) pa_nil))))) (pw_or (pt_cmpR op_lt (pe_callB call_len (by rfl) T.len (by decide +kernel) (pa_cons (pv 1) pa_nil)) pe_int (nomark _)) (pw_or1 (pt_cmpR op_gt (pe_callB call_len (by rfl) T.len (by decide +kernel) (pa_cons (pv 1) pa_nil)) pe_int (nomark _)))))) (pss_one (ps_ret (pe_tup (pa_cons pe_str (pa_cons (pe_un un_neg pe_int) pa_nil))))) pss_nil)
      (pss_cons (ps_for PassesOwn.never rfl (pi_range1 (by rfl) T.range (pa_cons (pe_callB call_len (by rfl) T.len (by decide +kernel) (pa_cons (pv 1) pa_nil)) pa_nil)) (pg_name (i := 2) scLdue.nd rfl (Or.inr rfl)) (pss_cons (ps_if (PW.pt (pw_or (pt_not (pt_val (pe_df DLis_step GLis_step (hr.mono (by decide)) (pa_cons (pe_ix ix_list (pv 1) (pv 2) (fun _ _ => rfl)) pa_nil)))) (pw_or1 (pt_cmpR (op_inD (hu65 hr)) (pe_ix ix_list (pv 1) (pv 2) (fun _ _ => rfl)) (pe_slice sl_list (pv 1) po_none (po_some (pv 2))) (by rfl))))) (pss_one (ps_ret (pe_tup (pa_cons pe_str (pa_cons (pv 2) pa_nil))))) pss_nil)
      (pss_one (ps_if (pt_cmpR op_eq (pe_callB call_len (by rfl) T.len (by decide +kernel) (pa_cons (pe_lc (own := [("_law_old", 3)]) rfl scLdue.nd (pi_list (pe_slice sl_list (pv 1) po_none (po_some (pv 2)))) (blkOk_by (own := [("_law_old", 3)]) (N := nLdue) (sc := defScope sLdue) (by decide +kernel)) (fun _ _ _ _ _ => (pg_name (i := 3) scLdue.nd rfl (Or.inl rfl))) (fun _ _ _ _ _ => (pts_one (pt_cmpR op_eq (pe_ix (r := rIxT K) ix_tup (pv 3) pe_int (fun _ _ => rfl)) (pe_ix (r := rIxT K) ix_tup (pe_ix (r := rIxL K) ix_list (pv 1) (pv 2) (fun _ _ => rfl)) pe_int (fun _ _ => rfl)) (nomark _)))) (fun _ _ _ _ _ => (pv 3))) pa_nil)) pe_int (nomark _)) (pss_one (ps_ret (pe_tup (pa_cons pe_str (pa_cons (pv 2) pa_nil))))) pss_nil))))
      (pss_one (ps_ret (pe_tup (pa_cons pe_str (pa_cons pe_int pa_nil)))))))), ?_⟩
    refine ⟨_, rfl, st, n, rfl, hk, ?_⟩
    have fin : ∀ {H' : Hp} {p : Addr} {z : Str} {y : V}, Same H H' → H' p = none → dueV st r = (z, y) → Q (.ref p) (upd H' p (.tup [.str z, y])) := fun {H' p z y} s' np e => q p _ (s'.free np) (s'.trans (same_upd np)) (by rw [e]; exact upd_same)
    cases hb : btw 0 99 st with
    | false => exact ⟨_, rfl, _, rfl, by show 2 ≤ sizeLine; decide, fun p np => fin (Same.refl _) np (dueV_start hb)⟩
    | true =>
      refine ⟨_, rfl, ?_⟩
      refine ⟨_, rfl, by show 2 ≤ sizeLine; decide, fun tt ht => ?_⟩
      have s1 : Same H (upd H tt (.tup [.ty "list", .ty "tuple"])) := same_upd ht
      cases hR with
      | @bad x n' hk' n1 n2 =>
        refine ⟨_, tt, _, _, [.type "list", .type "tuple"], _, rfl, upd_same, .cons (.ty "list") (.cons (.ty "tuple") .nil), tyx_mono s1 hk'.1, kit_row hk'.2.1, ?_⟩
        rw [beq_eq_false_iff_ne.mpr n1, beq_eq_false_iff_ne.mpr n2]
        exact ⟨_, rfl, _, rfl, by show 2 ≤ sizeLine; decide, fun p np => fin s1 np (dueV_steps hb rfl)⟩
      | @empty a hrow =>
        obtain ⟨n', hk', hn'⟩ := kd_row (K := K) hrow
        refine ⟨.ref a, tt, _, _, [.type "list", .type "tuple"], _, rfl, upd_same, .cons (.ty "list") (.cons (.ty "tuple") .nil), tyx_mono s1 hk'.1, kit_row hk'.2.1, ?_⟩
        rw [hn']
        refine ⟨_, rfl, _, rfl, _, 0, rfl, len_row (hrow.mono s1), _, _, rfl, rfl, ?_⟩
        exact ⟨_, rfl, _, rfl, by show 2 ≤ sizeLine; decide, fun p np => fin s1 np (dueV_steps hb rfl)⟩
      | @row a xs os hrow hx hne hl100 =>
        have hlx : xs.length = os.length := Paired.length hx
        have hl1 : 0 < os.length := List.length_pos_iff.mpr hne
        have ha : H a = some (.lst xs) := by
          rcases hrow with h | h
          · exact h
          · have := hnt a xs rfl h
            cases this
        have row1 : RowAt (upd H tt (.tup [.ty "list", .ty "tuple"])) a xs := hrow.mono s1
        obtain ⟨n', hk', hn'⟩ := kd_row (K := K) hrow
        refine ⟨.ref a, tt, _, _, [.type "list", .type "tuple"], _, rfl, upd_same, .cons (.ty "list") (.cons (.ty "tuple") .nil), tyx_mono s1 hk'.1, kit_row hk'.2.1, ?_⟩
        rw [hn']
        refine ⟨_, rfl, _, rfl, _, xs.length, rfl, len_row row1, _, _, rfl, rfl, _, rfl, ?_⟩
        rw [decide_eq_false (show ¬ (xs.length : Int) < 1 by omega)]
        refine ⟨_, rfl, _, xs.length, rfl, len_row row1, _, _, rfl, rfl, _, rfl, ?_⟩
        by_cases h20 : 20 < os.length
        · rw [decide_eq_true (show (20 : Int) < (xs.length : Int) by omega)]
          exact ⟨_, rfl, by show 2 ≤ sizeLine; decide, fun p np => fin s1 np (dueV_steps hb (by show (if 20 < os.length then some (-1) else _) = _; rw [if_pos h20]))⟩
        rw [decide_eq_false (show ¬ (20 : Int) < (xs.length : Int) by omega)]
        have hdue : ∀ {o : Option Nat}, badF [] 0 os = o → dueR (some os) = Option.map (fun n : Nat => (n : Int)) o := fun {o} e => by
          show (if 20 < os.length then some (-1) else Option.map (fun n : Nat => (n : Int)) (badF [] 0 os)) = _
          rw [if_neg h20, e]
        have ha1 := s1 _ _ ha
        refine ⟨_, rfl, ?_⟩
        refine ⟨_, xs.length, rfl, len_row row1, _, rfl, by omega, by omega, for_range (lo := 0) (n := xs.length) (fun i σ H' => ∃ v2 v3 ts, σ = [some st, some (.ref a), v2, v3] ∧ Same H H' ∧ i ≤ xs.length ∧ os.take i = ts.map some ∧ (∀ t ∈ ts, StpOk t) ∧ Stps H (xs.take i) ts ∧ badF [] 0 os = badF ts i (os.drop i)) ?_ ?_ ?_⟩
        · exact ⟨none, none, [], rfl, s1, Nat.zero_le _, rfl, fun t h => by simp at h, .nil, rfl⟩
        · rintro i σ H' hi ⟨v2, v3, ts, rfl, sm, hil, et, hts, hst, eb⟩
          rw [show (0 : Int) + (i : Int) = (i : Int) from Int.zero_add _]
          have hi2 : i < os.length := by omega
          have hxi : xs[i]? = some xs[i] := List.getElem?_eq_getElem (by omega)
          obtain ⟨o', ho', hxt⟩ := paired_get hx hxi
          have edrop : os.drop i = o' :: os.drop (i + 1) := by
            rw [List.drop_eq_getElem_cons hi2, (List.getElem?_eq_some_iff.mp ho').2]
          have etake : os.take (i + 1) = os.take i ++ [o'] := take_next ho'
          have lts : ts.length = i := by
            have := congrArg List.length et
            rw [List.length_take, List.length_map] at this
            omega
          have ha2 := sm _ _ ha
          have bad2 : ∀ {H'' : Hp} {p : Addr}, Same H H'' → H'' p = none → badF ts i (os.drop i) = some i → Q (.ref p) (upd H'' p (.tup [.str "steps", .int (i : Int)])) := fun {H'' p} s' np e => fin s' np (dueV_steps hb (hdue (eb.trans e)))
          cases hxt with
          | no hq =>
            refine ⟨_, rfl, _, rfl, a, xs, _, _, rfl, rfl, SqL.of ha2, atI_nat hxi, _, false, rfl, hq.mono sm, fun H3 s3 => ⟨_, rfl, _, rfl, by show 2 ≤ sizeLine; decide, fun p np => bad2 (sm.trans s3) np ?_⟩⟩
            rw [edrop]
            rfl
          | @yes t hst1 hok =>
            have eb1 : badF ts i (os.drop i) = if t ∈ ts ∨ cnt t.1 ts = 3 then some i else badF (ts ++ [t]) (i + 1) (os.drop (i + 1)) := by
              rw [edrop]
              rfl
            refine ⟨_, rfl, _, rfl, a, xs, _, _, rfl, rfl, SqL.of ha2, atI_nat hxi, _, true, rfl, (hst1.mono sm).stepQ K hok, fun H3 s3 => ⟨_, rfl, ?_⟩⟩
            have ha3 := s3 _ _ ha2
            refine ⟨_, rfl, _, rfl, a, xs, _, _, rfl, rfl, SqL.of ha3, atI_nat hxi, _, rfl, _, rfl, _, rfl, a, xs, rfl, SqL.of ha3, fun l hl => ?_⟩
            rw [cut_to]
            have s4 : Same H3 (upd H3 l (.lst (xs.take i))) := same_upd hl
            have sH4 := (sm.trans s3).trans s4
            have hl4 : upd H3 l (.lst (xs.take i)) l = some (.lst (xs.take i)) := upd_same
            generalize upd H3 l (.lst (xs.take i)) = H4 at s4 sH4 hl4 ⊢
            refine ⟨_, _, (hst1.mono sH4).dp, .lst (SqL.of hl4) (Stps.dpAll (hst.mono sH4)), encS_shaped hok, encSs_shaped hts, _, rfl, ?_⟩
            rw [any_encS]
            by_cases hm : t ∈ ts
            · rw [decide_eq_true hm]
              exact ⟨_, rfl, by show 2 ≤ sizeLine; decide, fun p np => bad2 sH4 np (by rw [eb1, if_pos (.inl hm)])⟩
            rw [decide_eq_false hm]
            have ha4 := s4 _ _ ha3
            refine ⟨_, rfl, _, rfl, _, rfl, a, xs, rfl, SqL.of ha4, fun l' hl' => ?_⟩
            rw [cut_to]
            have s5 : Same H4 (upd H4 l' (.lst (xs.take i))) := same_upd hl'
            have sH5 := sH4.trans s5
            have hl5 : upd H4 l' (.lst (xs.take i)) l' = some (.lst (xs.take i)) := upd_same
            generalize upd H4 l' (.lst (xs.take i)) = H5 at s5 sH5 hl5 ⊢
            have hx5 := hst.mono sH5
            have hxt5 := hst1.mono sH5
            have ha5 := s5 _ _ ha4
            obtain ⟨at5, ex5, ht5⟩ := id hxt5
            have hxi5 : xs[i]? = some (.ref at5) := by rw [hxi, ex5]
            refine ⟨l', rfl, ⟨_, SqL.of hl5⟩, fun D1 hD1 => lc_pure (fstV H5 t.1) (SqL.of hl5) (by rw [List.length_take]; omega) (fun _ => rfl) (fun x0 H6 hx0 s6 Q6 q6 => ?_) hD1 (fun H6 s6 h6 => ?_)⟩
            · obtain ⟨t0, _, a0, rfl, ha0⟩ := paired_memL hx5 x0 hx0
              have e0 : fstV H5 t.1 (.ref a0) = if decide (V.int t0.1 = V.int t.1) = true then some (.ref a0) else none := by
                unfold fstV
                simp only [ha0, stpV]
              refine ⟨_, rfl, a0, _, 0, _, rfl, rfl, SqT.of (s6 _ _ ha0), atI_nat (j := 0) rfl, _, rfl, _, rfl, a, xs, _, _, rfl, rfl, SqL.of (s6 _ _ ha5), atI_nat hxi5, at5, _, 0, _, rfl, rfl, SqT.of (s6 _ _ ht5), atI_nat (j := 0) rfl, rfl, _, rfl, ite2 (fun c => ⟨_, rfl, ?_⟩) (fun c => ?_)⟩
              · have := q6 H6 (Same.refl _)
                rw [e0, if_pos c] at this
                exact this
              · have := q6 H6 (Same.refl _)
                rw [e0, if_neg c] at this
                exact this
            · have hlen := fstV_len (H := H5) t.1 hx5
              refine ⟨_, _, rfl, .inl ⟨_, SqL.of h6, rfl⟩, rfl, _, rfl, ?_⟩
              by_cases h3 : cnt t.1 ts = 3
              · rw [decide_eq_true (show V.int (((xs.take i).filterMap (fstV H5 t.1)).length : Int) = V.int 3 by rw [hlen, h3]; rfl)]
                exact ⟨_, rfl, by show 2 ≤ sizeLine; decide, fun p np => bad2 (sH5.trans s6) np (by rw [eb1, if_pos (.inr h3)])⟩
              rw [decide_eq_false (show ¬ V.int (((xs.take i).filterMap (fstV H5 t.1)).length : Int) = V.int 3 from fun e => by
                have e1 := V.int.inj e
                rw [hlen] at e1
                omega)]
              refine ⟨_, _, ts ++ [t], rfl, sH5.trans s6, by omega, ?_, ?_, ?_, ?_⟩
              · rw [etake, et, List.map_append]
                rfl
              · intro u hu
                rcases List.mem_append.mp hu with h | h
                · exact hts u h
                · rw [List.mem_singleton.mp h]
                  exact hok
              · rw [take_next hxi]
                exact paired_snoc hst hst1
              · rw [eb, eb1, if_neg (fun z => z.elim hm h3)]
        · rintro σ H' ⟨v2, v3, ts, rfl, sm, hil, et, hts, hst, eb⟩
          rw [hlx, List.drop_length] at eb
          exact ⟨by show 2 ≤ sizeLine; decide, fun p np => fin sm np (dueV_hand hb (hdue eb))⟩
end
end WW

set_option Elab.async false
set_option linter.all false
set_option maxRecDepth 100000
set_option maxHeartbeats 4000000
namespace WW
open PySem PySem.Spec PyProof.Rows L2
structure Told (K : PySem.W.Frag) (mg : Str → Option Value) (CB CS CW CT : Addr) : Prop where
  xB : XfC K CB
  xS : XfC K CS
  cB : ExcC K CB
  cS : ExcC K CS
  nB : PySem.W.findIn K (.ref CB) "value" = some none
  nS : PySem.W.findIn K (.ref CS) "at" = some none
  gW : mg "WorksError" = some (.ref CW)
  gT : mg "TooMany" = some (.ref CT)
  gV : mg "ValueError" = none
  k1 : PySem.W.kitOne K (.ref CB) (.ref CW) = some true
  k2 : PySem.W.kitOne K (.ref CB) (.ref CS) = some false
  k3 : PySem.W.kitOne K (.ref CS) (.ref CW) = some true
  k4 : PySem.W.kitOne K (.ref CS) (.type "ValueError") = some true
  k5 : PySem.W.kitOne K (.ref CS) (.ref CT) = some false
  e1 : PySem.W.exmOne K (.ref CB) (.ref CB) = some true
  e2 : PySem.W.exmOne K (.ref CS) (.ref CB) = some false
  e3 : PySem.W.exmOne K (.ref CS) (.ref CS) = some true
theorem rel_ref {c : Addr} (u : Value) (h : RelV (.ref c) u) : u = .ref c := h
theorem rel_ty {T : String} (u : Value) (h : RelV (.ty T) u) : u = .type T := h
section
variable {P : Program} {w : World} {K : PySem.W.Frag} {mg : Str → Option Value} {base : Heap} {f fI fS fT CH CB CS CW CT : Addr} {fd fdI fdS fdT : FuncData}
abbrev sLtold : Stmt := topS 30
abbrev nLtold : List Str := ["_law_start", "_law_steps", "e"]
theorem scLtold : FnScope nLtold ["_law_start", "_law_steps"] (defScope sLtold) := ⟨rfl, rfl, rfl, by decide +kernel, rfl, by decide +kernel, by decide +kernel⟩
def spTold (K : PySem.W.Frag) : Sp := fun vs H Q _ => ∃ (st v : V) (n : String) (r : Option (List (Option Stp))), vs = [st, v] ∧ Kd K H st n ∧ RowQ K H v r ∧
  ∀ p H', H p = none → Same H H' → H' p = some (.tup [.str (dueV st r).1, (dueV st r).2, .bl true]) → Q (.ref p) H'
theorem ok_told (D : Df K mg "_law_told" sLtold ["_law_start", "_law_steps"] f fd) (XB : ExcT P w K mg "BadStart" CB fT "value" fdT) (XS : ExcT P w K mg "BadSteps" CS fS "at" fdS) (T : Bl mg) (E1 : Told K mg CB CS CW CT) (HC : HandC K mg CH)
    (MHand : Mk K CH fI) (GIHand : FnOk P w K mg base (L2.CX P w) 6 fI fdI ["self", "start", "steps"] (spHInitX K CH CB CS)) (bIHand : Binds K fdI ["self", "start", "steps"] []) :
    FnOk P w K mg base CX0 8 f fd ["_law_start", "_law_steps"] (spTold K) := by
  refine D.fn.ok scLtold (fun vs H Q E h => ?_) (fun cdv A outer s H vs Q E hr h => ?_)
  · obtain ⟨st, v, n, r, rfl, _⟩ := h
    rfl
  · obtain ⟨st, v, n, r, rfl, hk, hR, q⟩ := h
    refine ⟨_, (pss_cons (ps_try_manyA (Wout := fun _ _ _ _ => False) (tb := fun W => tDrop (tMakeS CH (spHInitX K CH CB CS) (WE W) (tCons (tVar 0) (tCons (tVar 1) tNil)))) rfl rfl scLtold.nd takes0
        (fun W pn xe tk po => pss_one (ps_expr (pe_makeS MHand GIHand (hr.mono (by decide)) (by rfl) HC.mgC bIHand (fun σ => passAt tk σ) (pa_cons (pv 0) (pa_cons (pv 1) pa_nil)))))
        (HdsA.cons (i := 2) (c := .ref CB) rfl rfl ⟨rfl, by decide, .inl XB.gl⟩
          (fun a oe cls d pn hz hf => pss_one (ps_ret (pe_tup (pa_cons pe_str (pa_cons (pe_xf E1.xB E1.nB hz hf (pv 2)) (pa_cons (pe_and (pe_callB (call_isED E1.cB hz hf) (by rfl) T.isinstance (by decide +kernel) (pa_cons (pv 2) (pa_cons (pe_glob (v := .ref CW) (by rfl) E1.gW rfl) pa_nil))) (pe_one (pe_not (pe_callB (call_isED E1.cB hz hf) (by rfl) T.isinstance (by decide +kernel) (pa_cons (pv 2) (pa_cons (pe_glob (v := .ref CS) (by rfl) XS.gl rfl) pa_nil)))))) pa_nil))))))
          (HdsA.cons (i := 2) (c := .ref CS) rfl rfl ⟨rfl, by decide, .inl XS.gl⟩
            (fun a oe cls d pn hz hf => pss_one (ps_ret (pe_tup (pa_cons pe_str (pa_cons (pe_xf E1.xS E1.nS hz hf (pv 2)) (pa_cons (pe_and (pe_callB (call_isED E1.cS hz hf) (by rfl) T.isinstance (by decide +kernel) (pa_cons (pv 2) (pa_cons (pe_glob (v := .ref CW) (by rfl) E1.gW rfl) pa_nil))) (pe_and (pe_callB (call_isED E1.cS hz hf) (by rfl) T.isinstance (by decide +kernel) (pa_cons (pv 2) (pa_cons (pe_bltn (v := .ty "ValueError") (by rfl) E1.gV (by decide +kernel) rfl) pa_nil))) (pe_one (pe_not (pe_callB (call_isED E1.cS hz hf) (by rfl) T.isinstance (by decide +kernel) (pa_cons (pv 2) (pa_cons (pe_glob (v := .ref CT) (by rfl) E1.gT rfl) pa_nil))))))) pa_nil))))))
            HdsA.nil)))
      (pss_one (ps_ret (pe_tup (pa_cons pe_str (pa_cons pe_int (pa_cons pe_bl pa_nil))))))), ?_⟩
    refine ⟨_, rfl, _, rfl, fun x dx nx ndx nxd => ?_⟩
    have sH : Same H (upd (upd H dx (.own x)) x (.ins CH dx [])) := fun c o h => by
      rw [upd_ne (ne_of_none h nx), upd_ne (ne_of_none h ndx)]
      exact h
    have kp : ∀ {H' : Hp}, KeepB x (upd (upd H dx (.own x)) x (.ins CH dx [])) H' → Same H H' := fun {H'} k c o h => k c o (ne_of_none h nx) (sH _ _ h)
    have fin : ∀ {H' : Hp} {p : Addr} {z : Str} {y : V}, Same H H' → H' p = none → dueV st r = (z, y) → Q (.ref p) (upd H' p (.tup [.str z, y, .bl true])) := fun {H' p z y} s' np e => q p _ (s'.free np) (s'.trans (same_upd np)) (by rw [e]; exact upd_same)
    refine ⟨x, dx, H, st, v, n, r, rfl, upd_same, sH, nx, hk, hR, fun hb d H' nd k hd => ?_, fun hb i hi d H' nd k hd => ?_, fun b a xs ts hst hb hdue hv hrow hS hr' hok p H' np k hx hp => ⟨rfl, ?_⟩⟩
    · refine ⟨true, E1.e1, fun _ a na => ?_, fun z => by cases z⟩
      refine ⟨_, rfl, rfl, rfl, d, _, _, rfl, hd, by simp [List.lookup]; rfl, _, rfl, rfl, d, _, rfl, hd, _, _, _, rfl, rel_ref, E1.k1, _, rfl, ?_⟩
      refine ⟨_, rfl, rfl, d, _, rfl, hd, _, _, _, rfl, rel_ref, E1.k2, _, rfl, ?_⟩
      exact ⟨by show 3 ≤ sizeLine; decide, fun p np => fin (kp k) np (dueV_start hb)⟩
    · refine ⟨false, E1.e2, (fun z => by cases z), fun _ => ⟨true, E1.e3, fun _ a na => ?_, (fun z => by cases z)⟩⟩
      refine ⟨_, rfl, rfl, rfl, d, _, _, rfl, hd, by simp [List.lookup]; rfl, _, rfl, rfl, d, _, rfl, hd, _, _, _, rfl, rel_ref, E1.k3, _, rfl, ?_⟩
      refine ⟨_, rfl, rfl, d, _, rfl, hd, _, _, _, rfl, rel_ty, E1.k4, _, rfl, ?_⟩
      refine ⟨_, rfl, rfl, d, _, rfl, hd, _, _, _, rfl, rel_ref, E1.k5, _, rfl, ?_⟩
      exact ⟨by show 3 ≤ sizeLine; decide, fun p np => fin (kp k) np (dueV_steps hb hi)⟩
    · have hb' : btw 0 99 st = true := by
        rw [hst]
        show (decide (0 ≤ b) && decide (b ≤ 99)) = true
        rw [decide_eq_true hb.1, decide_eq_true hb.2]
        rfl
      exact ⟨by show 3 ≤ sizeLine; decide, fun p np => fin (kp k) np (dueV_hand hb' hdue)⟩
end
end WW

set_option Elab.async false
set_option linter.all false
set_option maxRecDepth 100000
set_option maxHeartbeats 4000000
namespace WW
open PySem PySem.Spec PyProof.Rows L2
structure Wd (p : Addr) (S0 H0 S H : Hp) : Prop where
  pl : Pool S H p
  gr : Gr p S0 H0 S H
theorem Wd.alloc {p : Addr} {S0 H0 S H : Hp} {a : Addr} (w : Wd p S0 H0 S H) (n : H a = none) (o : HO) : Wd p S0 H0 (upd S a o) (upd H a o) ∧ Same S (upd S a o) ∧ upd S a o a = some o :=
  ⟨⟨w.pl.new n, w.gr.new w.pl.ss n⟩, same_upd (w.pl.ss.free n), upd_same⟩
theorem Wd.then_ {p : Addr} {S0 H0 S H S' H' : Hp} (w : Wd p S0 H0 S H) (P' : Pool S' H' p) (g : Gr p S H S' H') : Wd p S0 H0 S' H' ∧ Same S S' := ⟨⟨P', w.gr.trans g⟩, g.st⟩
theorem Wd.ss {p : Addr} {S0 H0 S H : Hp} (w : Wd p S0 H0 S H) : Same S H := w.pl.ss
theorem Wd.more {p : Addr} {S0 H0 S H H' : Hp} (w : Wd p S0 H0 S H) (s : Same H H') : Wd p S0 H0 S H' := ⟨w.pl.same s, w.gr.same s⟩
theorem Wd.put {p l : Addr} {S0 H0 S H : Hp} {o : HO} (w : Wd p S0 H0 S H) (n0 : H0 l = none) (sl : S l = none) (nlp : l ≠ p) : Wd p S0 H0 S (upd H l o) := ⟨w.pl.put sl nlp, w.gr.put n0⟩
theorem Wd.fix {p l : Addr} {S0 H0 S H : Hp} {o : HO} (w : Wd p S0 H0 S H) (h : H l = some o) (n0 : H0 l = none) (sl : S l = none) (nlp : l ≠ p) : ∃ S', Wd p S0 H0 S' H ∧ Same S S' ∧ S' l = some o :=
  ⟨upd S l o, ⟨w.pl.fix h sl nlp, w.gr.fix n0 sl⟩, same_upd sl, upd_same⟩
theorem Wd.new {p : Addr} {S0 H0 S H : Hp} {a : Addr} (w : Wd p S0 H0 S H) (n : H a = none) (o : HO) : ∃ S', Wd p S0 H0 S' (upd H a o) ∧ Same S S' ∧ S' a = some o := ⟨_, w.alloc n o⟩
theorem Stps.drop {H : Hp} : ∀ (i : Nat) {xs : List V} {ts : List Stp}, Stps H xs ts → Stps H (xs.drop i) (ts.drop i)
  | 0, _, _, h => h
  | _ + 1, _, _, .nil => .nil
  | i + 1, _, _, .cons _ t => Stps.drop i t
theorem pair_app {α β : Type} {R : α → β → Prop} : ∀ {xs ys : List α} {ts us : List β}, Paired R xs ts → Paired R ys us → Paired R (xs ++ ys) (ts ++ us)
  | _, _, _, _, .nil, h => h
  | _, _, _, _, .cons r t, h => .cons r (pair_app t h)
theorem pair_cast {α β : Type} {R : α → β → Prop} {xs ys : List α} {ts us : List β} (e : ys = xs) (e2 : us = ts) (h : Paired R xs ts) : Paired R ys us := by
  subst e
  subst e2
  exact h
section
variable {P : Program} {w : World} {K : PySem.W.Frag} {mg : Str → Option Value} {base : Heap} {f fA fB fC : Addr} {fd fdA fdB fdC : FuncData}
abbrev sLrow : Stmt := topS 31
abbrev nLrow : List Str := ["_law_pool_here", "_law_words", "_law_first", "_law_many", "_law_steps", "_law_k", "_law_step", "_law_turn"]
theorem scLrow : FnScope nLrow ["_law_pool_here"] (defScope sLrow) := ⟨rfl, rfl, rfl, by decide +kernel, rfl, by decide +kernel, by decide +kernel⟩
def spRowL : Sp := fun vs H Q _ => ∃ (p : Addr) (S : Hp), vs = [.ref p] ∧ Pool S H p ∧
  ∀ (t r : Addr) (b : Int) (xs : List V) (ts : List Stp) (S' H' : Hp), Pool S' H' p → Gr p S H S' H' → S' t = some (.tup [.int b, .ref r]) → S' r = some (.lst xs) → Stps S' xs ts → (∀ t ∈ ts, StpOk t) → (0 ≤ b ∧ b ≤ 99) → 1 ≤ ts.length → ts.length ≤ 22 → Q (.ref t) H'
theorem ok_row (D : Df K mg "_law_row" sLrow ["_law_pool_here"] f fd) (DLdraw : Df K mg "_law_draw" sLdraw ["_law_pool_here", "_law_many"] fA fdA) (DLpick : Df K mg "_law_pick" sLpick ["_law_pool_here", "_law_items"] fB fdB)
    (DLnames : Df K mg "_law_names" sLnames ["_law_pool_here", "_law_many"] fC fdC) (GLnames : FnOk P w K mg base CX0 3 fC fdC ["_law_pool_here", "_law_many"] spNames) (T : Bl mg) : FnOk P w K mg base CX0 4 f fd ["_law_pool_here"] spRowL := by
  have GLdraw : FnOk P w K mg base CX0 1 fA fdA ["_law_pool_here", "_law_many"] spDraw := ok_draw DLdraw T
  have GLpick : FnOk P w K mg base CX0 2 fB fdB ["_law_pool_here", "_law_items"] spPick := ok_pick DLpick DLdraw T
  refine D.fn.ok scLrow (fun vs H Q E h => ?_) (fun cdv A outer s H vs Q E hr h => ?_)
  · obtain ⟨p, S, rfl, _⟩ := h
    rfl
  · obtain ⟨p, S, rfl, P0, q⟩ := h
    refine ⟨_, (pss_cons (ps_set (i := 1) scLrow.nd rfl (Or.inl rfl) (pe_df DLnames GLnames (hr.mono (by decide)) (pa_cons (pv 0) (pa_cons (pe_op op_add pe_int (pe_df DLdraw GLdraw (hr.mono (by decide)) (pa_cons (pv 0) (pa_cons pe_int pa_nil)))) pa_nil))))
      (pss_cons (ps_set (i := 2) scLrow.nd rfl (Or.inl rfl) (pe_df DLdraw GLdraw (hr.mono (by decide)) (pa_cons (pv 0) (pa_cons pe_int pa_nil))))
      (pss_cons (ps_set (i := 3) scLrow.nd rfl (Or.inl rfl) (pe_ix ix_list (pe_lst (pa_cons (pe_op op_add pe_int (pe_df DLdraw GLdraw (hr.mono (by decide)) (pa_cons (pv 0) (pa_cons pe_int pa_nil)))) (pa_cons (pe_op op_add pe_int (pe_df DLdraw GLdraw (hr.mono (by decide)) (pa_cons (pv 0) (pa_cons pe_int pa_nil)))) (pa_cons (pe_op op_add pe_int (pe_df DLdraw GLdraw (hr.mono (by decide)) (pa_cons (pv 0) (pa_cons pe_int pa_nil)))) pa_nil)))) (pe_df DLdraw GLdraw (hr.mono (by decide)) (pa_cons (pv 0) (pa_cons pe_int pa_nil))) (fun _ _ => rfl)))
      (pss_cons (ps_set (i := 4) scLrow.nd rfl (Or.inl rfl) (pe_lst pa_nil))
      (pss_cons (ps_for PassesOwn.never rfl (pi_range1 (by rfl) T.range (pa_cons (pv 3) pa_nil)) (pg_name (i := 5) scLrow.nd rfl (Or.inl rfl)) (pss_cons (ps_set (i := 6) scLrow.nd rfl (Or.inl rfl) (pe_tup (pa_cons (pe_op op_add (pv 2) (pe_op op_fdiv (pv 5) pe_int)) (pa_cons (pe_df DLpick GLpick (hr.mono (by decide)) (pa_cons (pv 0) (pa_cons (pv 1) pa_nil))) (pa_cons (pe_op op_add (pv 2) (pe_df DLdraw GLdraw (hr.mono (by decide)) (pa_cons (pv 0) (pa_cons pe_int pa_nil)))) pa_nil)))))
      (pss_one (ps_if (pt_cmpR (op_notInD (hu65 hr)) (pv 6) (pv 4) (by rfl)) (pss_one (ps_expr (pe_bm PySem.F.plainAttrs_list PySem.F.slot_list_append PySem.F.type_list_append mt_append (pv 4) (pa_cons (pv 6) pa_nil)))) pss_nil))))
      (pss_cons (ps_set (i := 7) scLrow.nd rfl (Or.inl rfl) (pe_df DLdraw GLdraw (hr.mono (by decide)) (pa_cons (pv 0) (pa_cons (pe_callB call_len (by rfl) T.len (by decide +kernel) (pa_cons (pv 4) pa_nil)) pa_nil))))
      (pss_one (ps_ret (pe_tup (pa_cons (pe_op op_add (pv 2) (pe_df DLdraw GLdraw (hr.mono (by decide)) (pa_cons (pv 0) (pa_cons pe_int pa_nil)))) (pa_cons (pe_op op_cat (pe_slice sl_list (pv 4) (po_some (pv 7)) po_none) (pe_slice sl_list (pv 4) po_none (po_some (pv 7)))) pa_nil))))))))))), ?_⟩
    have W0 : Wd p S H S H := ⟨P0, Gr.refl⟩
    refine ⟨_, rfl, _, rfl, p, S, 5, rfl, by decide, by decide, P0, fun d S1 H1 P1 g1 d0 d1 => ⟨_, _, rfl, rfl, p, 1 + d, S1, rfl, P1, by omega, by omega, fun wa zs S2 H2 P2 g2 hwa lz hz nd => ?_⟩⟩
    obtain ⟨W1, s1⟩ := W0.then_ P1 g1
    obtain ⟨W2, s2⟩ := W1.then_ P2 g2
    refine ⟨_, rfl, p, S2, 90, rfl, by decide, by decide, P2, fun fi S3 H3 P3 g3 f0 f1 => ?_⟩
    obtain ⟨W3, s3⟩ := W2.then_ P3 g3
    -- many
    refine ⟨_, rfl, p, S3, 7, rfl, by decide, by decide, P3, fun a1 S4 H4 P4 g4 a10 a11 => ⟨_, _, rfl, rfl, ?_⟩⟩
    obtain ⟨W4, s4⟩ := W3.then_ P4 g4
    refine ⟨_, rfl, p, S4, 20, rfl, by decide, by decide, P4, fun a2 S5 H5 P5 g5 a20 a21 => ⟨_, _, rfl, rfl, ?_⟩⟩
    obtain ⟨W5, s5⟩ := W4.then_ P5 g5
    refine ⟨_, rfl, p, S5, 5, rfl, by decide, by decide, P5, fun a3 S6 H6 P6 g6 a30 a31 => ⟨_, _, rfl, rfl, ?_⟩⟩
    obtain ⟨W6, s6⟩ := W5.then_ P6 g6
    refine ⟨by show 3 ≤ sizeLine; decide, fun l hl => ?_⟩
    obtain ⟨W7, s7, h7⟩ := W6.alloc hl (.lst [.int (1 + a1), .int (1 + a2), .int (18 + a3)])
    refine ⟨_, rfl, p, _, 3, rfl, by decide, by decide, W7.pl, fun a4 S8 H8 P8 g8 a40 a41 => ?_⟩
    obtain ⟨W8, s8⟩ := W7.then_ P8 g8
    have h8 := W8.ss _ _ (s8 _ _ h7)
    obtain ⟨m, eM, m0, m1⟩ : ∃ m : Int, atI [V.int (1 + a1), V.int (1 + a2), V.int (18 + a3)] a4 = some (.int m) ∧ 1 ≤ m ∧ m ≤ 22 := by
      rcases (by omega : a4 = 0 ∨ a4 = 1 ∨ a4 = 2) with rfl | rfl | rfl
      · exact ⟨1 + a1, atI_nat (j := 0) rfl, by omega, by omega⟩
      · exact ⟨1 + a2, atI_nat (j := 1) rfl, by omega, by omega⟩
      · exact ⟨18 + a3, atI_nat (j := 2) rfl, by omega, by omega⟩
    refine ⟨l, _, _, _, rfl, rfl, SqL.of h8, eM, ?_⟩
    have hw8 : S8 wa = some (.lst (zs.map V.str)) := (s3.trans (s4.trans (s5.trans (s6.trans (s7.trans s8))))) _ _ hwa
    have nwp : wa ≠ p := fun z => by rw [z, P8.np] at hw8; cases hw8
    -- steps = []
    refine ⟨Nat.zero_le _, fun l2 hl2 => ?_⟩
    have nlp : l2 ≠ p := fun z => P8.has (by rw [← z]; exact hl2)
    have n0 : H l2 = none := W8.gr.bk hl2
    have sl8 : S8 l2 = none := P8.ss.free hl2
    have W9 := W8.put (o := .lst []) n0 sl8 nlp
    refine ⟨_, rfl, m, rfl, by omega, by omega, for_range (lo := 0) (n := m.toNat) (fun i σ H' => ∃ (v5 v6 v7 : Option V) (S' : Hp) (xs : List V) (ts : List Stp), σ = [some (.ref p), some (.ref wa), some (.int fi), some (.int m), some (.ref l2), v5, v6, v7] ∧ Wd p S H S' H' ∧ Same S8 S' ∧ S' l2 = none ∧ H' l2 = some (.lst xs) ∧
      Stps S' xs ts ∧ (∀ t ∈ ts, StpOk t) ∧ ts.length ≤ i ∧ (0 < i → 1 ≤ ts.length)) ?_ ?_ ?_⟩
    · exact ⟨none, none, none, S8, [], [], rfl, W9, Same.refl _, sl8, upd_same, .nil, (fun t h => by cases h), Nat.le_refl _, (fun h => by omega)⟩
    · rintro i σ H' hi ⟨v5, v6, v7, S', xs, ts, rfl, W', sS, sl, hl', hst, hts, len, ne⟩
      have hwa' := W'.ss _ _ (sS _ _ hw8)
      refine ⟨_, rfl, _, rfl, _, _, rfl, rfl, ⟨by decide, by decide⟩, _, _, rfl, rfl, _, rfl, _, rfl, p, wa, S', _, rfl, W'.pl, hwa', nwp, by rw [List.length_map]; omega, by rw [List.length_map]; omega, fun j v S2 H2 hv P2 g2 => ?_⟩
      obtain ⟨z, hzz, rfl⟩ : ∃ z, z ∈ zs ∧ v = .str z := by
        obtain ⟨z, hz, e⟩ := List.mem_map.mp (List.mem_of_getElem? hv)
        exact ⟨z, hz, e.symm⟩
      obtain ⟨W2', s2'⟩ := W'.then_ P2 g2
      refine ⟨_, rfl, _, rfl, p, S2, 8, rfl, by decide, by decide, P2, fun e S3 H3 P3 g3 e0 e1 => ⟨_, _, rfl, rfl, by show 3 ≤ sizeLine; decide, fun t ht => ?_⟩⟩
      obtain ⟨W3', s3'⟩ := W2'.then_ P3 g3
      obtain ⟨sl2, hl3⟩ := (g2.trans g3).loc nlp sl hl'
      have nlt : l2 ≠ t := fun e => by rw [← e, hl3] at ht; cases ht
      obtain ⟨W4', s4', h4'⟩ := W3'.alloc ht (.tup [.int (fi + (0 + (i : Int)) / 3), .str z, .int (fi + e)])
      have sl4 : upd S3 t (.tup [.int (fi + (0 + (i : Int)) / 3), .str z, .int (fi + e)]) l2 = none := (upd_ne nlt).trans sl2
      have hl4 : upd H3 t (.tup [.int (fi + (0 + (i : Int)) / 3), .str z, .int (fi + e)]) l2 = some (.lst xs) := (upd_ne nlt).trans hl3
      have sS4 := s2'.trans (s3'.trans s4')
      have hit : IsStp (upd S3 t (.tup [.int (fi + (0 + (i : Int)) / 3), .str z, .int (fi + e)])) (.ref t) (fi + (0 + (i : Int)) / 3, z, fi + e) := ⟨t, rfl, upd_same⟩
      have okt : StpOk (fi + (0 + (i : Int)) / 3, z, fi + e) := ⟨⟨by show (0 : Int) ≤ fi + (0 + (i : Int)) / 3; omega, by show fi + (0 + (i : Int)) / 3 ≤ 99; omega⟩, hz z hzz, by show (0 : Int) ≤ fi + e; omega, by show fi + e ≤ 99; omega⟩
      show tSeq _ _ _ _ (upd H3 t (.tup [.int (fi + (0 + (i : Int)) / 3), .str z, .int (fi + e)]))
      generalize upd S3 t (.tup [.int (fi + (0 + (i : Int)) / 3), .str z, .int (fi + e)]) = S4' at W4' s4' h4' sl4 sS4 hit
      generalize upd H3 t (.tup [.int (fi + (0 + (i : Int)) / 3), .str z, .int (fi + e)]) = H4' at W4' hl4 ⊢
      generalize ((fi + (0 + (i : Int)) / 3, z, fi + e) : Stp) = tt at hit okt
      have hst4 := hst.mono sS4
      have lxs : xs.length = ts.length := Paired.length hst
      refine ⟨_, rfl, _, rfl, _, _, (hit.mono W4'.ss).dp, .lst (SqL.of hl4) (Stps.dpAll (hst4.mono W4'.ss)), encS_shaped okt, encSs_shaped hts, _, rfl, ?_⟩
      rw [any_encS]
      by_cases hm : tt ∈ ts
      · rw [decide_eq_true hm]
        exact ⟨_, _, _, S4', xs, ts, rfl, W4', sS.trans sS4, sl4, hl4, hst4, hts, by omega, fun _ => List.length_pos_of_mem hm⟩
      · rw [decide_eq_false hm]
        refine ⟨_, rfl, .inl ⟨rfl, _, SqL.of hl4⟩, _, rfl, l2, _, _, rfl, rfl, hl4, small1000 (by omega), ?_⟩
        refine ⟨_, _, _, S4', xs ++ [.ref t], ts ++ [tt], rfl, W4'.put n0 sl4 nlp, sS.trans sS4, sl4, upd_same, paired_snoc hst4 hit, fun u hu => ?_, by rw [List.length_append, List.length_singleton]; omega, fun _ => by rw [List.length_append, List.length_singleton]; omega⟩
        rcases List.mem_append.mp hu with h | h
        · exact hts u h
        · rw [List.mem_singleton.mp h]
          exact okt
    · rintro σ H' ⟨v5, v6, v7, S', xs, ts, rfl, W', sS, sl, hl', hst, hts, len, ne⟩
      have ne1 := ne (by omega)
      have lxs : xs.length = ts.length := Paired.length hst
      refine ⟨_, rfl, _, rfl, _, _, rfl, .inl ⟨_, SqL.of hl', rfl⟩, p, S', _, rfl, by omega, by omega, W'.pl, fun tu S1' H1' P1' g1' tu0 tu1 => ?_⟩
      obtain ⟨W1', s1'⟩ := W'.then_ P1' g1'
      obtain ⟨sl1, hl1⟩ := g1'.loc nlp sl hl'
      obtain ⟨tn, rfl⟩ : ∃ tn : Nat, tu = (tn : Int) := ⟨tu.toNat, by omega⟩
      refine ⟨_, rfl, _, rfl, p, S1', 3, rfl, by decide, by decide, P1', fun e S2' H2' P2' g2' e0 e1 => ⟨_, _, rfl, rfl, ?_⟩⟩
      obtain ⟨W2', s2'⟩ := W1'.then_ P2' g2'
      obtain ⟨sl2, hl2'⟩ := g2'.loc nlp sl1 hl1
      obtain ⟨S3', W3', s3', h3'⟩ := W2'.fix hl2' n0 sl2 nlp
      have hst3 := hst.mono (s1'.trans (s2'.trans s3'))
      refine ⟨_, rfl, _, rfl, _, rfl, l2, _, rfl, SqL.of (W3'.ss _ _ h3'), fun la hla => ?_⟩
      obtain ⟨W4', s4', h4'⟩ := W3'.alloc hla (.lst (cutV xs (some (tn : Int)) none))
      refine ⟨_, rfl, _, rfl, _, rfl, l2, _, rfl, SqL.of (W4'.ss _ _ (s4' _ _ h3')), fun lb hlb => ?_⟩
      obtain ⟨W5', s5', h5'⟩ := W4'.alloc hlb (.lst (cutV xs none (some (tn : Int))))
      have lsum : (cutV xs (some (tn : Int)) none).length + (cutV xs none (some (tn : Int))).length = xs.length := by
        rw [cut_to, cut_from, List.length_take, List.length_drop]
        omega
      refine ⟨la, lb, _, _, rfl, rfl, W5'.ss _ _ (s5' _ _ h4'), W5'.ss _ _ h5', Nat.le_of_lt (small1000 (by omega)), fun lc hlc => ?_⟩
      obtain ⟨W6', s6', h6'⟩ := W5'.alloc hlc (.lst (cutV xs (some (tn : Int)) none ++ cutV xs none (some (tn : Int))))
      refine ⟨by show 2 ≤ sizeLine; decide, fun t ht => ?_⟩
      obtain ⟨W7', s7', h7'⟩ := W6'.alloc ht (.tup [.int (fi + e), .ref lc])
      have hst7 := hst3.mono (s4'.trans (s5'.trans (s6'.trans s7')))
      have pt : (ts.drop tn ++ ts.take tn).Perm ts := List.perm_append_comm.trans (by rw [List.take_append_drop])
      exact q t lc (fi + e) _ (ts.drop tn ++ ts.take tn) _ _ W7'.pl W7'.gr h7' (s7' _ _ h6') (pair_cast (by rw [cut_to, cut_from]) rfl (pair_app (hst7.drop tn) (Stps.take tn hst7))) (fun t ht => hts t (pt.mem_iff.mp ht)) ⟨by omega, by omega⟩ (by rw [pt.length_eq]; exact ne1) (by rw [pt.length_eq]; omega)
end
end WW

set_option Elab.async false
set_option linter.all false
set_option maxRecDepth 100000
set_option maxHeartbeats 4000000
namespace WW
open PySem PySem.Spec PyProof.Rows L2
theorem at_all {xs : List V} {d : Int} (h0 : 0 ≤ d) (h1 : d < (xs.length : Int)) : ∃ v, atI xs d = some v ∧ v ∈ xs := by
  obtain ⟨j, rfl⟩ : ∃ j : Nat, d = (j : Int) := ⟨d.toNat, by omega⟩
  have hj : j < xs.length := by omega
  exact ⟨xs[j], atI_nat (List.getElem?_eq_getElem hj), List.getElem_mem hj⟩
theorem kd_non (K : PySem.W.Frag) (H : Hp) : Kd K H .non "NoneType" := ⟨.base .non, by decide, fun z e => by cases e⟩
theorem kd_bl (K : PySem.W.Frag) (H : Hp) (b : Bool) : Kd K H (.bl b) "bool" := ⟨.base (.bl b), by decide, fun z e => by cases e⟩
theorem kd_dic (K : PySem.W.Frag) {H : Hp} {a : Addr} {kvs : List (Key × V)} (h : H a = some (.dK kvs)) : Kd K H (.ref a) "dict" := ⟨.base (.dK h), by decide, fun y e => by cases e⟩
/-- a thing that is no state | no name -/
def NoSt (K : PySem.W.Frag) (H : Hp) (v : V) : Prop := ∃ n, Kd K H v n ∧ btw 0 99 v = false
def NoNm (K : PySem.W.Frag) (H : Hp) (v : V) : Prop := ∃ n, Kd K H v n ∧ isNm v = false
theorem NoSt.mono {K : PySem.W.Frag} {H H' : Hp} {v : V} (s : Same H H') (h : NoSt K H v) : NoSt K H' v := by
  obtain ⟨n, k, e⟩ := h
  exact ⟨n, k.mono s, e⟩
theorem NoNm.mono {K : PySem.W.Frag} {H H' : Hp} {v : V} (s : Same H H') (h : NoNm K H v) : NoNm K H' v := by
  obtain ⟨n, k, e⟩ := h
  exact ⟨n, k.mono s, e⟩
theorem stepQ_3 {K : PySem.W.Frag} {H : Hp} {a : Addr} {u v y : V} {n1 n2 n3 : String} (h : H a = some (.tup [u, v, y])) (k1 : Kd K H u n1) (k2 : Kd K H v n2) (k3 : Kd K H y n3) (e : (btw 0 99 u && (isNm v && btw 0 99 y)) = false) : StepQ K H (.ref a) false := by
  have := StepQ.three h k1 k2 k3
  rw [e] at this
  exact this
section
variable {P : Program} {w : World} {K : PySem.W.Frag} {mg : Str → Option Value} {base : Heap} {f fA fB fC : Addr} {fd fdA fdB fdC : FuncData}
abbrev sLodd_step : Stmt := topS 32
abbrev nLodd_step : List Str := ["_law_pool_here", "_law_step", "_law_deep", "_law_k", "_law_state", "_law_word"]
theorem scLodd_step : FnScope nLodd_step ["_law_pool_here", "_law_step"] (defScope sLodd_step) := ⟨rfl, rfl, rfl, by decide +kernel, rfl, by decide +kernel, by decide +kernel⟩
def spOdd (K : PySem.W.Frag) : Sp := fun vs H Q _ => ∃ (p a : Addr) (t : Stp) (S : Hp), vs = [.ref p, .ref a] ∧ Pool S H p ∧ S a = some (.tup (stpV t)) ∧ StpOk t ∧
  ∀ (v : V) (S' H' : Hp), Pool S' H' p → Gr p S H S' H' → StepQ K S' v false → Q v H'
theorem ok_odd (D : Df K mg "_law_odd_step" sLodd_step ["_law_pool_here", "_law_step"] f fd) (DLdraw : Df K mg "_law_draw" sLdraw ["_law_pool_here", "_law_many"] fA fdA) (DLpick : Df K mg "_law_pick" sLpick ["_law_pool_here", "_law_items"] fB fdB) (T : Bl mg) :
    FnOk P w K mg base CX0 3 f fd ["_law_pool_here", "_law_step"] (spOdd K) := by
  have GLdraw : FnOk P w K mg base CX0 1 fA fdA ["_law_pool_here", "_law_many"] spDraw := ok_draw DLdraw T
  have GLpick : FnOk P w K mg base CX0 2 fB fdB ["_law_pool_here", "_law_items"] spPick := ok_pick DLpick DLdraw T
  refine D.fn.ok scLodd_step (fun vs H Q E h => ?_) (fun cdv A outer s H vs Q E hr h => ?_)
  · obtain ⟨p, a, t, S, rfl, _⟩ := h
    rfl
  · obtain ⟨p, a, t, S, rfl, P0, ha, hok, q⟩ := h
    refine ⟨_, (pss_cons (ps_set (i := 2) scLodd_step.nd rfl (Or.inl rfl) (pv 1))
      (pss_cons (ps_for PassesOwn.never rfl (pi_range1 (by rfl) T.range (pa_cons pe_int pa_nil)) (pg_name (i := 3) scLodd_step.nd rfl (Or.inl rfl)) (pss_one (ps_set (i := 2) scLodd_step.nd rfl (Or.inl rfl) (pe_tup (pa_cons (pv 2) pa_nil)))))
      (pss_cons (ps_set (i := 4) scLodd_step.nd rfl (Or.inl rfl) (pe_ix ix_list (pe_lst (pa_cons (pe_un un_neg pe_int) (pa_cons pe_int (pa_cons pe_bl (pa_cons pe_str (pa_cons pe_non (pa_cons (pe_tup (pa_cons pe_int pa_nil)) (pa_cons (pe_op op_pow pe_int pe_int) pa_nil)))))))) (pe_df DLdraw GLdraw (hr.mono (by decide)) (pa_cons (pv 0) (pa_cons pe_int pa_nil))) (fun _ _ => rfl)))
      (pss_cons (ps_set (i := 5) scLodd_step.nd rfl (Or.inl rfl) (pe_ix ix_list (pe_lst (pa_cons pe_str (pa_cons pe_str (pa_cons pe_str (pa_cons pe_int (pa_cons pe_non (pa_cons pe_str (pa_cons pe_str (pa_cons (pe_tup (pa_cons pe_str pa_nil)) pa_nil))))))))) (pe_df DLdraw GLdraw (hr.mono (by decide)) (pa_cons (pv 0) (pa_cons pe_int pa_nil))) (fun _ _ => rfl)))
      (pss_one (ps_ret (pe_df DLpick GLpick (hr.mono (by decide)) (pa_cons (pv 0) (pa_cons (pe_lst (pa_cons pe_non (pa_cons pe_int (pa_cons pe_str (pa_cons (pe_tup pa_nil) (pa_cons (pe_slice sl_tup (pv 1) po_none (po_some pe_int)) (pa_cons (pe_op op_catT (pv 1) (pe_tup (pa_cons pe_int pa_nil))) (pa_cons (pe_callTy call_list_of (by rfl) T.list (by decide +kernel) (pa_cons (pv 1) pa_nil)) (pa_cons pe_dnewK (pa_cons (pv 2) (pa_cons (pe_tup (pa_cons (pv 4) (pa_cons (pe_ix ix_tup (pv 1) pe_int (fun _ _ => rfl)) (pa_cons (pe_ix ix_tup (pv 1) pe_int (fun _ _ => rfl)) pa_nil)))) (pa_cons (pe_tup (pa_cons (pe_ix ix_tup (pv 1) pe_int (fun _ _ => rfl)) (pa_cons (pv 5) (pa_cons (pe_ix ix_tup (pv 1) pe_int (fun _ _ => rfl)) pa_nil)))) (pa_cons (pe_tup (pa_cons (pe_ix ix_tup (pv 1) pe_int (fun _ _ => rfl)) (pa_cons (pe_ix ix_tup (pv 1) pe_int (fun _ _ => rfl)) (pa_cons (pv 4) pa_nil)))) (pa_cons (pe_tup (pa_cons (pv 4) (pa_cons (pv 5) (pa_cons (pe_ix ix_tup (pv 1) pe_int (fun _ _ => rfl)) pa_nil)))) (pa_cons (pe_tup (pa_cons (pv 5) (pa_cons (pv 4) (pa_cons (pv 4) pa_nil)))) pa_nil))))))))))))))) pa_nil))))))))), ?_⟩
    have W0 : Wd p S H S H := ⟨P0, Gr.refl⟩
    refine ⟨_, rfl, ?_⟩
    refine ⟨90, rfl, by decide, by decide, for_range (lo := 0) (n := 90) (fun i σ H' => ∃ (v3 : Option V) (S' : Hp) (b : Addr) (xs : List V), σ = [some (.ref p), some (.ref a), some (.ref b), v3, none, none] ∧ Wd p S H S' H' ∧ S' b = some (.tup xs) ∧ (0 < i → xs.length = 1)) ?_ ?_ ?_⟩
    · exact ⟨none, S, a, _, rfl, W0, ha, fun h => by omega⟩
    · rintro i σ H' hi ⟨v3, S', b, xs, rfl, W', hb, _⟩
      refine ⟨_, rfl, by show 1 ≤ sizeLine; decide, fun c hc => ?_⟩
      obtain ⟨W2, s2, h2⟩ := W'.alloc hc (.tup [.ref b])
      exact ⟨_, _, c, _, rfl, W2, h2, fun _ => rfl⟩
    · rintro σ H1 ⟨v3, S1, b, ys, rfl, W1, hb, hy⟩
      have ly := hy (by decide)
      -- state
      refine ⟨_, rfl, by show 1 ≤ sizeLine; decide, fun c1 hc1 => ⟨_, _, rfl, rfl, ⟨by decide, by decide, by decide⟩, by show 7 ≤ sizeLine; decide, fun l1 hl1 => ?_⟩⟩
      obtain ⟨W2, s2, h2⟩ := W1.alloc hc1 (.tup [.int 1])
      obtain ⟨L1, eL1⟩ : ∃ L1 : List V, L1 = [.int (-1), .int 100, .bl true, .str "0", .non, .ref c1, .int ((10 : Int) ^ (30 : Int).toNat)] := ⟨_, rfl⟩
      have aL1 : ∀ v ∈ L1, NoSt K (upd S1 c1 (.tup [.int 1])) v := fun v hv => by
        rw [eL1] at hv
        simp only [List.mem_cons, List.not_mem_nil, or_false] at hv
        rcases hv with rfl | rfl | rfl | rfl | rfl | rfl | rfl
        · exact ⟨_, kd_int K _ _, by decide⟩
        · exact ⟨_, kd_int K _ _, by decide⟩
        · exact ⟨_, kd_bl K _ _, rfl⟩
        · exact ⟨_, kd_str K _ (by decide +kernel), rfl⟩
        · exact ⟨_, kd_non K _, rfl⟩
        · exact ⟨_, kd_tup K h2, rfl⟩
        · exact ⟨_, kd_int K _ _, by decide⟩
      obtain ⟨W3, s3, h3⟩ := W2.alloc hl1 (.lst L1)
      have W3' := W3
      rw [eL1] at W3'
      refine ⟨_, rfl, p, _, 7, rfl, by decide, by decide, W3'.pl, fun d1 S4 H4 P4 g4 d10 d11 => ?_⟩
      obtain ⟨W4, s4⟩ := W3'.then_ P4 g4
      rw [← eL1] at s4
      obtain ⟨st, est, mst⟩ := at_all (xs := L1) d10 (by rw [eL1]; exact d11)
      have hst := (aL1 st mst).mono (s3.trans s4)
      refine ⟨l1, L1, _, _, rfl, rfl, SqL.of (W4.ss _ _ (s4 _ _ h3)), est, ?_⟩
      -- word
      refine ⟨by show 1 ≤ sizeLine; decide, fun c2 hc2 => ⟨by show 8 ≤ sizeLine; decide, fun l2 hl2 => ?_⟩⟩
      obtain ⟨W5, s5, h5⟩ := W4.alloc hc2 (.tup [.str "a"])
      obtain ⟨L2, eL2⟩ : ∃ L2 : List V, L2 = [.str "", .str "A", .str "abcdefghijk", .int 5, .non, .str "a b", .str "a1", .ref c2] := ⟨_, rfl⟩
      have aL2 : ∀ v ∈ L2, NoNm K (upd S4 c2 (.tup [.str "a"])) v := fun v hv => by
        rw [eL2] at hv
        simp only [List.mem_cons, List.not_mem_nil, or_false] at hv
        rcases hv with rfl | rfl | rfl | rfl | rfl | rfl | rfl | rfl
        · exact ⟨_, kd_str K _ (by decide +kernel), by decide +kernel⟩
        · exact ⟨_, kd_str K _ (by decide +kernel), by decide +kernel⟩
        · exact ⟨_, kd_str K _ (by decide +kernel), by decide +kernel⟩
        · exact ⟨_, kd_int K _ _, rfl⟩
        · exact ⟨_, kd_non K _, rfl⟩
        · exact ⟨_, kd_str K _ (by decide +kernel), by decide +kernel⟩
        · exact ⟨_, kd_str K _ (by decide +kernel), by decide +kernel⟩
        · exact ⟨_, kd_tup K h5, rfl⟩
      obtain ⟨W6, s6, h6⟩ := W5.alloc hl2 (.lst L2)
      have W6' := W6
      rw [eL2] at W6'
      refine ⟨_, rfl, p, _, 8, rfl, by decide, by decide, W6'.pl, fun d2 S7 H7 P7 g7 d20 d21 => ?_⟩
      obtain ⟨W7, s7⟩ := W6'.then_ P7 g7
      rw [← eL2] at s7
      obtain ⟨wd, ewd, mwd⟩ := at_all (xs := L2) d20 (by rw [eL2]; exact d21)
      have hwd := (aL2 wd mwd).mono (s6.trans s7)
      have hst7 := hst.mono (s5.trans (s6.trans s7))
      refine ⟨l2, L2, _, _, rfl, rfl, SqL.of (W7.ss _ _ (s7 _ _ h6)), ewd, ?_⟩
      have s17 : Same S1 S7 := s2.trans (s3.trans (s4.trans (s5.trans (s6.trans s7))))
      have ha7 : S7 a = some (.tup (stpV t)) := W7.gr.st _ _ ha
      have hb7 := s17 _ _ hb
      refine ⟨_, rfl, by show 0 ≤ sizeLine; decide, fun e1 he1 => ?_⟩
      obtain ⟨S8, W8, s8, k1⟩ := W7.new he1 (.tup [])
      have ha8 := s8 _ _ ha7
      refine ⟨_, rfl, _, rfl, a, _, rfl, SqT.of (W8.ss _ _ ha8), (by show ¬ (HT.sIx 3 0 none = 0 ∧ HT.sIx 3 3 (some 2) = 3); decide), fun e2 he2 => ?_⟩
      obtain ⟨S9, W9, s9, k2⟩ := W8.new he2 (.tup (cutV (stpV t) none (some 2)))
      have ha9 := s9 _ _ ha8
      refine ⟨_, rfl, by show 1 ≤ sizeLine; decide, fun e3 he3 => ?_⟩
      obtain ⟨S10, W10, s10, k3⟩ := W9.new he3 (.tup [.int 0])
      have ha10 := s10 _ _ ha9
      refine ⟨a, e3, stpV t, _, rfl, rfl, SqT.of (W10.ss _ _ ha10), SqT.of (W10.ss _ _ k3), by simp [stpV], by show 4 ≤ sizeLine; decide, (fun z => by cases z), fun _ e4 he4 => ?_⟩
      obtain ⟨S11, W11, s11, k4⟩ := W10.new he4 (.tup (stpV t ++ [.int 0]))
      have ha11 := s11 _ _ ha10
      refine ⟨_, rfl, a, _, rfl, .inr (SqT.of (W11.ss _ _ ha11)), fun e5 he5 => ?_⟩
      obtain ⟨S12, W12, s12, k5⟩ := W11.new he5 (.lst (stpV t))
      refine fun e6 he6 => ?_
      obtain ⟨S13, W13, s13, k6⟩ := W12.new he6 (.dK [])
      have ha13 := s13 _ _ (s12 _ _ ha11)
      refine ⟨_, rfl, _, rfl, _, rfl, a, _, 1, _, rfl, rfl, SqT.of (W13.ss _ _ ha13), atI_nat (j := 1) rfl, _, rfl, a, _, 2, _, rfl, rfl, SqT.of (W13.ss _ _ ha13), atI_nat (j := 2) rfl, by show 3 ≤ sizeLine; decide, fun e7 he7 => ?_⟩
      obtain ⟨S14, W14, s14, k7⟩ := W13.new he7 (.tup [st, .str t.2.1, .int t.2.2])
      have ha14 := s14 _ _ ha13
      refine ⟨_, rfl, a, _, 0, _, rfl, rfl, SqT.of (W14.ss _ _ ha14), atI_nat (j := 0) rfl, _, rfl, _, rfl, a, _, 2, _, rfl, rfl, SqT.of (W14.ss _ _ ha14), atI_nat (j := 2) rfl, by show 3 ≤ sizeLine; decide, fun e8 he8 => ?_⟩
      obtain ⟨S15, W15, s15, k8⟩ := W14.new he8 (.tup [.int t.1, wd, .int t.2.2])
      have ha15 := s15 _ _ ha14
      refine ⟨_, rfl, a, _, 0, _, rfl, rfl, SqT.of (W15.ss _ _ ha15), atI_nat (j := 0) rfl, _, rfl, a, _, 1, _, rfl, rfl, SqT.of (W15.ss _ _ ha15), atI_nat (j := 1) rfl, _, rfl, by show 3 ≤ sizeLine; decide, fun e9 he9 => ?_⟩
      obtain ⟨S16, W16, s16, k9⟩ := W15.new he9 (.tup [.int t.1, .str t.2.1, st])
      have ha16 := s16 _ _ ha15
      refine ⟨_, rfl, _, rfl, _, rfl, a, _, 2, _, rfl, rfl, SqT.of (W16.ss _ _ ha16), atI_nat (j := 2) rfl, by show 3 ≤ sizeLine; decide, fun e10 he10 => ?_⟩
      obtain ⟨S17, W17, s17', k10⟩ := W16.new he10 (.tup [st, wd, .int t.2.2])
      refine ⟨_, rfl, _, rfl, _, rfl, by show 3 ≤ sizeLine; decide, fun e11 he11 => ?_⟩
      obtain ⟨S18, W18, s18, k11⟩ := W17.new he11 (.tup [wd, st, st])
      have t17 := s18
      have t16 := s17'.trans t17
      have t15 := s16.trans t16
      have t14 := s15.trans t15
      have t13 := s14.trans t14
      have t12 := s13.trans t13
      have t11 := s12.trans t12
      have t10 := s11.trans t11
      have t9 := s10.trans t10
      have t8 := s9.trans t9
      have t7 := s8.trans t8
      obtain ⟨nst, kst, est'⟩ := hst7.mono t7
      obtain ⟨nwd, kwd, ewd'⟩ := hwd.mono t7
      have c2 : cutV (stpV t) none (some 2) = (stpV t).take 2 := cut_to _ 2
      obtain ⟨L3, eL3⟩ : ∃ L3 : List V, L3 = [.non, .int 7, .str "abc", .ref e1, .ref e2, .ref e4, .ref e5, .ref e6, .ref b, .ref e7, .ref e8, .ref e9, .ref e10, .ref e11] := ⟨_, rfl⟩
      refine ⟨by show 14 ≤ sizeLine; decide, fun l3 hl3 => ?_⟩
      obtain ⟨S19, W19, s19, k19⟩ := W18.new hl3 (.lst L3)
      have aL3 : ∀ v ∈ L3, StepQ K S18 v false := fun v hv => by
        rw [eL3] at hv
        simp only [List.mem_cons, List.not_mem_nil, or_false] at hv
        rcases hv with rfl | rfl | rfl | rfl | rfl | rfl | rfl | rfl | rfl | rfl | rfl | rfl | rfl | rfl
        · exact .other (kd_non K _) (by decide)
        · exact .other (kd_int K _ _) (by decide)
        · exact .other (kd_str K _ (by decide +kernel)) (by decide)
        · exact .len (t8 _ _ k1) (by simp)
        · exact .len (t9 _ _ k2) (by rw [c2]; simp [stpV])
        · exact .len (t11 _ _ k4) (by simp [stpV])
        · exact .other (kd_lst K (t12 _ _ k5)) (by decide)
        · exact .other (kd_dic K (t13 _ _ k6)) (by decide)
        · exact .len (t7 _ _ hb7) (by omega)
        · exact stepQ_3 (t14 _ _ k7) kst (kd_str K _ (Nat.le_trans hok.2.1.2.1 (by decide))) (kd_int K _ _) (by rw [est']; rfl)
        · exact stepQ_3 (t15 _ _ k8) (kd_int K _ _) kwd (kd_int K _ _) (by rw [ewd']; simp)
        · exact stepQ_3 (t16 _ _ k9) (kd_int K _ _) (kd_str K _ (Nat.le_trans hok.2.1.2.1 (by decide))) kst (by rw [est']; simp)
        · exact stepQ_3 (t17 _ _ k10) kst kwd (kd_int K _ _) (by rw [est']; rfl)
        · exact stepQ_3 k11 kwd kst kst (by rw [est']; simp)
      have hlen : L3.length = 14 := by rw [eL3]; rfl
      subst eL3
      refine ⟨p, l3, S19, _, rfl, W19.pl, W19.ss _ _ k19, fun z => W18.pl.has (by rw [← z]; exact hl3), by omega, by omega, fun i v S' H' hv P' g' => ?_⟩
      exact q v S' H' P' (W19.gr.trans g') ((aL3 v (List.mem_of_getElem? hv)).mono (s19.trans g'.st))
end
end WW

set_option Elab.async false
set_option linter.all false
set_option maxRecDepth 100000
set_option maxHeartbeats 4000000
namespace WW
open PySem PySem.Spec PyProof.Rows L2
/-- a start that may be handed in -/
def StartQ (K : PySem.W.Frag) (S : Hp) (v : V) : Prop := ∃ n d, Kd K S v n ∧ Dp K S v d ∧ d.canLay0 = true ∧ d.depth ≤ 2
theorem StartQ.mono {K : PySem.W.Frag} {H H' : Hp} {v : V} (s : Same H H') (h : StartQ K H v) : StartQ K H' v := by
  obtain ⟨n, d, k, e, r⟩ := h
  exact ⟨n, d, k.mono s, dp_mono s d e, r⟩
/-- a row handed in: no row, or a list of things -/
inductive RowM (K : PySem.W.Frag) (S : Hp) : V → Option (List (Option Stp)) → Prop
  | bad {v : V} : RowQ K S v none → RowM K S v none
  | row {a : Addr} {xs : List V} {os : List (Option Stp)} : S a = some (.lst xs) → Tgs K S xs os → os ≠ [] → RowM K S (.ref a) (some os)
theorem RowM.mono {K : PySem.W.Frag} {H H' : Hp} {v : V} {r : Option (List (Option Stp))} (s : Same H H') (h : RowM K H v r) : RowM K H' v r := by
  cases h with
  | bad h => exact .bad (h.mono s)
  | row h t n => exact .row (s _ _ h) (t.mono s) n
open Classical in
noncomputable def okV (K : PySem.W.Frag) (S : Hp) (v : V) : Option V := if ∃ t, Tg K S v (some t) then some v else none
theorem tgs_mem {K : PySem.W.Frag} {S : Hp} : ∀ {xs : List V} {os : List (Option Stp)} {v : V}, Tgs K S xs os → v ∈ xs → ∃ o, o ∈ os ∧ Tg K S v o
  | _, _, _, .nil, h => by cases h
  | _, _, _, .cons r q, h => by
    rcases List.mem_cons.mp h with rfl | h
    · exact ⟨_, List.mem_cons_self, r⟩
    · obtain ⟨o, ho, e⟩ := tgs_mem q h
      exact ⟨o, List.mem_cons_of_mem _ ho, e⟩
theorem tgs_has {K : PySem.W.Frag} {S : Hp} : ∀ {xs : List V} {os : List (Option Stp)} {o : Option Stp}, Tgs K S xs os → o ∈ os → ∃ v, v ∈ xs ∧ Tg K S v o
  | _, _, _, .nil, h => by cases h
  | _, _, _, .cons r q, h => by
    rcases List.mem_cons.mp h with rfl | h
    · exact ⟨_, List.mem_cons_self, r⟩
    · obtain ⟨o, ho, e⟩ := tgs_has q h
      exact ⟨o, List.mem_cons_of_mem _ ho, e⟩
theorem Tgs.take {K : PySem.W.Frag} {H : Hp} : ∀ (i : Nat) {xs : List V} {ts : List (Option Stp)}, Tgs K H xs ts → Tgs K H (xs.take i) (ts.take i)
  | 0, _, _, _ => .nil
  | _ + 1, _, _, .nil => .nil
  | i + 1, _, _, .cons r t => .cons r (Tgs.take i t)
theorem Tgs.drop {K : PySem.W.Frag} {H : Hp} : ∀ (i : Nat) {xs : List V} {ts : List (Option Stp)}, Tgs K H xs ts → Tgs K H (xs.drop i) (ts.drop i)
  | 0, _, _, h => h
  | _ + 1, _, _, .nil => .nil
  | i + 1, _, _, .cons _ t => Tgs.drop i t
theorem tgs_rep {K : PySem.W.Frag} {H : Hp} {xs : List V} {ts : List (Option Stp)} (h : Tgs K H xs ts) : ∀ n : Nat, Tgs K H (List.replicate n xs).flatten (List.replicate n ts).flatten
  | 0 => .nil
  | n + 1 => by
    rw [List.replicate_succ, List.replicate_succ, List.flatten_cons, List.flatten_cons]
    exact pair_app h (tgs_rep h n)
section
variable {P : Program} {w : World} {K : PySem.W.Frag} {mg : Str → Option Value} {base : Heap} {f fA fB fC fE : Addr} {fd fdA fdB fdC fdE : FuncData}
abbrev sLspoilt : Stmt := topS 33
abbrev nLspoilt : List Str := ["_law_pool_here", "_law_start", "_law_steps", "_law_kind", "_law_at", "_law_old", "_law_more", "_law_step", "_law_k"]
theorem scLspoilt : FnScope nLspoilt ["_law_pool_here", "_law_start", "_law_steps"] (defScope sLspoilt) := ⟨rfl, rfl, rfl, by decide +kernel, rfl, by decide +kernel, by decide +kernel⟩
def spSpoilt (K : PySem.W.Frag) : Sp := fun vs H Q _ => ∃ (p a : Addr) (st : V) (xs : List V) (os : List (Option Stp)) (S : Hp), vs = [.ref p, st, .ref a] ∧ Pool S H p ∧ StartQ K S st ∧ S a = some (.lst xs) ∧ Tgs K S xs os ∧ (∃ t, some t ∈ os) ∧ os.length ≤ 50 ∧
  ∀ (t : Addr) (st' v' : V) (r' : Option (List (Option Stp))) (S' H' : Hp), Pool S' H' p → Gr p S H S' H' → S' t = some (.tup [st', v']) → StartQ K S' st' → RowM K S' v' r' → (∀ os', r' = some os' → os'.length ≤ os.length + 21 ∧ ((∀ o ∈ os, o ≠ none) → ∃ t, some t ∈ os')) → Q (.ref t) H'
theorem ok_spoilt (D : Df K mg "_law_spoilt" sLspoilt ["_law_pool_here", "_law_start", "_law_steps"] f fd) (DLdraw : Df K mg "_law_draw" sLdraw ["_law_pool_here", "_law_many"] fA fdA) (DLpick : Df K mg "_law_pick" sLpick ["_law_pool_here", "_law_items"] fB fdB)
    (DLis_step : Df K mg "_law_is_step" sLis_step ["_law_thing"] fC fdC) (GLis_step : FnOk P w K mg base CX0 3 fC fdC ["_law_thing"] (spIsStep K)) (DLodd_step : Df K mg "_law_odd_step" sLodd_step ["_law_pool_here", "_law_step"] fE fdE) (GLodd_step : FnOk P w K mg base CX0 3 fE fdE ["_law_pool_here", "_law_step"] (spOdd K)) (T : Bl mg) :
    FnOk P w K mg base CX0 4 f fd ["_law_pool_here", "_law_start", "_law_steps"] (spSpoilt K) := by
  have GLdraw : FnOk P w K mg base CX0 1 fA fdA ["_law_pool_here", "_law_many"] spDraw := ok_draw DLdraw T
  have GLpick : FnOk P w K mg base CX0 2 fB fdB ["_law_pool_here", "_law_items"] spPick := ok_pick DLpick DLdraw T
  refine D.fn.ok scLspoilt (fun vs H Q E h => ?_) (fun cdv A outer s H vs Q E hr h => ?_)
  · obtain ⟨p, a, st, xs, os, S, rfl, _⟩ := h
    rfl
  · obtain ⟨p, a, st, xs, os, S, rfl, P0, hst, ha, htg, ⟨t0, ht0⟩, hlen, q⟩ := h
    refine ⟨_, (pss_cons (ps_set (i := 3) scLspoilt.nd rfl (Or.inl rfl) (pe_df DLdraw GLdraw (hr.mono (by decide)) (pa_cons (pv 0) (pa_cons pe_int pa_nil))))
      (pss_cons (ps_set (i := 4) scLspoilt.nd rfl (Or.inl rfl) (pe_df DLdraw GLdraw (hr.mono (by decide)) (pa_cons (pv 0) (pa_cons (pe_op op_add (pe_callB call_len (by rfl) T.len (by decide +kernel) (pa_cons (pv 2) pa_nil)) pe_int) pa_nil))))
      (pss_cons (ps_set (i := 5) scLspoilt.nd rfl (Or.inr rfl) (pe_df DLpick GLpick (hr.mono (by decide)) (pa_cons (pv 0) (pa_cons (pe_lc (own := [("_law_step", 7)]) rfl scLspoilt.nd (pi_list (pv 2)) (blkOk_by (own := [("_law_step", 7)]) (N := nLspoilt) (sc := defScope sLspoilt) (by decide +kernel)) (fun _ _ _ _ _ => (pg_name (i := 7) scLspoilt.nd rfl (Or.inl rfl))) (fun _ _ _ _ _ => (pts_one (pt_val (pe_df DLis_step GLis_step (hr.mono (by decide)) (pa_cons (pv 7) pa_nil))))) (fun _ _ _ _ _ => (pv 7))) pa_nil))))
      (pss_cons (ps_if (pt_cmpR op_eq (pv 3) pe_int (nomark _)) (pss_one (ps_ret (pe_tup (pa_cons (pe_df DLpick GLpick (hr.mono (by decide)) (pa_cons (pv 0) (pa_cons (pe_lst (pa_cons (pe_un un_neg pe_int) (pa_cons pe_int (pa_cons pe_bl (pa_cons pe_bl (pa_cons pe_str (pa_cons pe_non (pa_cons (pe_tup (pa_cons pe_int pa_nil)) (pa_cons (pe_lst (pa_cons pe_int pa_nil)) (pa_cons (pe_op op_pow pe_int pe_int) pa_nil)))))))))) pa_nil))) (pa_cons (pv 2) pa_nil))))) pss_nil)
      (pss_cons (ps_if (pt_cmpR op_eq (pv 3) pe_int (nomark _)) (pss_one (ps_ret (pe_tup (pa_cons (pv 1) (pa_cons (pe_df DLpick GLpick (hr.mono (by decide)) (pa_cons (pv 0) (pa_cons (pe_lst (pa_cons (pe_lst pa_nil) (pa_cons (pe_tup pa_nil) (pa_cons pe_non (pa_cons pe_int (pa_cons pe_str (pa_cons pe_dnewK (pa_cons (pe_disp (pps_cons pe_int (pv 5) pps_nil) rfl rfl (by simp) (by decide)) (pa_cons (pe_slice sl_list (pe_op op_rep (pv 2) pe_int) po_none (po_some pe_int)) pa_nil))))))))) pa_nil))) pa_nil))))) pss_nil)
      (pss_cons (ps_if (pt_cmpR op_eq (pv 3) pe_int (nomark _)) (pss_one (ps_ret (pe_tup (pa_cons (pv 1) (pa_cons (pe_op op_cat (pe_op op_cat (pe_slice sl_list (pv 2) po_none (po_some (pv 4))) (pe_lst (pa_cons (pv 5) pa_nil))) (pe_slice sl_list (pv 2) (po_some (pv 4)) po_none)) pa_nil))))) pss_nil)
      (pss_cons (ps_if (pt_cmpR op_eq (pv 3) pe_int (nomark _)) (pss_cons (ps_setLc (i := 6) (own := [("_law_k", 8)]) rfl scLspoilt.nd rfl rfl (sw_true rfl rfl rfl (by decide +kernel)) (pi_range1 (by rfl) T.range (pa_cons pe_int pa_nil)) (blkOk_by (own := [("_law_k", 8)]) (N := nLspoilt) (sc := defScope sLspoilt) (by decide +kernel)) (fun _ _ _ _ _ => (pg_name (i := 8) scLspoilt.nd rfl (Or.inl rfl))) (fun _ _ _ _ _ => pts_nil) (fun _ _ _ _ _ => (pe_tup (pa_cons (pe_ix (r := rIxT K) ix_tup (pv 5) pe_int (fun _ _ => rfl)) (pa_cons (pe_ix (r := rIxT K) ix_tup (pv 5) pe_int (fun _ _ => rfl)) (pa_cons (pe_op op_add pe_int (pv 8)) pa_nil))))))
      (pss_one (ps_ret (pe_tup (pa_cons (pv 1) (pa_cons (pe_op op_cat (pe_op op_cat (pe_slice sl_list (pv 2) po_none (po_some (pv 4))) (pv 6)) (pe_slice sl_list (pv 2) (po_some (pv 4)) po_none)) pa_nil)))))) pss_nil)
      (pss_cons (ps_if (pt_cmpR op_lt (pv 3) pe_int (nomark _)) (pss_one (ps_ret (pe_tup (pa_cons (pv 1) (pa_cons (pe_op op_cat (pe_op op_cat (pe_slice sl_list (pv 2) po_none (po_some (pv 4))) (pe_lst (pa_cons (pe_df DLodd_step GLodd_step (hr.mono (by decide)) (pa_cons (pv 0) (pa_cons (pv 5) pa_nil))) pa_nil))) (pe_slice sl_list (pv 2) (po_some (pv 4)) po_none)) pa_nil))))) pss_nil)
      (pss_one (ps_ret (pe_tup (pa_cons (pv 1) (pa_cons (pv 2) pa_nil))))))))))))), ?_⟩
    have W0 : Wd p S H S H := ⟨P0, Gr.refl⟩
    have lxs : xs.length = os.length := Paired.length htg
    have los : 0 < os.length := List.length_pos_of_mem ht0
    refine ⟨_, rfl, p, S, 8, rfl, by decide, by decide, P0, fun kd S1 H1 P1 g1 kd0 kd1 => ?_⟩
    obtain ⟨W1, s1⟩ := W0.then_ P1 g1
    have ha1 := W1.ss _ _ (s1 _ _ ha)
    refine ⟨_, rfl, _, rfl, _, _, rfl, .inl ⟨_, SqL.of ha1, rfl⟩, _, _, rfl, rfl, p, S1, _, rfl, by omega, by omega, P1, fun at' S2 H2 P2 g2 at0 at1 => ?_⟩
    obtain ⟨W2, s2⟩ := W1.then_ P2 g2
    have hat : Tgs K S2 xs os := htg.mono (s1.trans s2)
    have ha2 := (s1.trans s2) _ _ ha
    obtain ⟨k, rfl⟩ : ∃ k : Nat, at' = (k : Int) := ⟨at'.toNat, by omega⟩
    -- old
    refine ⟨_, rfl, _, rfl, a, rfl, ⟨_, SqL.of (W2.ss _ _ ha2)⟩, fun D1 hD1 => lc_pure (okV K S2) (SqL.of (W2.ss _ _ ha2)) (by omega) (fun _ => rfl) (fun x0 H3 hx0 s3 Q3 q3 => ?_) hD1 (fun H3 s3 h3 => ?_)⟩
    · have qq := fun H4 (s4 : Same H3 H4) => q3 H4 s4
      by_cases hy : ∃ t, Tg K S2 x0 (some t)
      · have ef : okV K S2 x0 = some x0 := if_pos hy
        rw [ef] at qq
        obtain ⟨t, ht⟩ := hy
        cases ht with
        | yes h1 h2 => exact ⟨_, rfl, x0, true, rfl, (h1.mono (W2.ss.trans s3)).stepQ K h2, fun H4 s4 => ⟨_, rfl, _, rfl, qq H4 s4⟩⟩
      · have ef : okV K S2 x0 = none := if_neg hy
        rw [ef] at qq
        obtain ⟨o, _, ho⟩ := tgs_mem hat hx0
        cases ho with
        | yes h1 h2 => exact absurd ⟨_, .yes h1 h2⟩ hy
        | no h1 => exact ⟨_, rfl, x0, false, rfl, h1.mono (W2.ss.trans s3), fun H4 s4 => ⟨_, rfl, qq H4 s4⟩⟩
    have W3 := W2.more s3
    have nD1 : D1 ≠ p := fun z => W2.pl.has (by rw [← z]; exact hD1)
    have all1 : ∀ v ∈ xs.filterMap (okV K S2), ∃ t, IsStp S2 v t ∧ StpOk t := fun v hv => by
      obtain ⟨x, hx, e⟩ := List.mem_filterMap.mp hv
      by_cases hy : ∃ t, Tg K S2 x (some t)
      · rw [show okV K S2 x = some x from if_pos hy] at e
        cases e
        obtain ⟨t, ht⟩ := hy
        cases ht with
        | yes h1 h2 => exact ⟨_, h1, h2⟩
      · rw [show okV K S2 x = none from if_neg hy] at e
        cases e
    have pos1 : 0 < (xs.filterMap (okV K S2)).length := by
      obtain ⟨v, hv, ht⟩ := tgs_has hat ht0
      exact List.length_pos_of_mem (List.mem_filterMap.mpr ⟨v, hv, if_pos ⟨_, ht⟩⟩)
    have le1 : (xs.filterMap (okV K S2)).length ≤ xs.length := List.length_filterMap_le ..
    refine ⟨p, D1, S2, _, rfl, W3.pl, h3, nD1, pos1, by omega, fun j v S4 H4 hv P4 g4 => ?_⟩
    obtain ⟨W4, s4⟩ := W3.then_ P4 g4
    obtain ⟨t, ⟨a0, rfl, hs0⟩, hok⟩ := all1 v (List.mem_of_getElem? hv)
    have hs4 := s4 _ _ hs0
    have ha4 := s4 _ _ ha2
    have ht4 := hat.mono s4
    have hst4 : StartQ K S4 st := hst.mono (s1.trans (s2.trans s4))
    -- steps[:at] + mid + steps[at:]
    have put : ∀ (σ : L2.St) (S6 H6 : Hp) (c1 c2 : Addr) (ms : List V) (mo : List (Option Stp)), σ[2]? = some (some (.ref a)) → σ[4]? = some (some (.int (k : Int))) → Wd p S H S6 H6 → Same S4 S6 → S6 c1 = some (.lst (cutV xs none (some (k : Int)))) → S6 c2 = some (.lst ms) → Tgs K S6 ms mo → mo.length ≤ 3 →
        rCat (.ref c1) (.ref c2) H6 fun x H1 => tSl (rSlL K) (tVar 2) (tPart (tVar 4)) tNoPart σ H1 fun y H2 => rCat x y H2 fun x H1 => ([st, x] : List V).length ≤ sizeLine ∧ ∀ p, H1 p = none → Q (.ref p) (upd H1 p (.tup [st, x])) := by
      intro σ S6 H6 c1 c2 ms mo e2 e4 W6 s46 h1 h2 hmo lmo
      have lms : ms.length = mo.length := Paired.length hmo
      have l1 : (cutV xs none (some (k : Int))).length ≤ xs.length := by
        rw [cut_to, List.length_take]
        omega
      have l2 : (cutV xs (some (k : Int)) none).length ≤ xs.length := by
        rw [cut_from, List.length_drop]
        omega
      refine ⟨c1, c2, _, _, rfl, rfl, W6.ss _ _ h1, W6.ss _ _ h2, Nat.le_of_lt (small1000 (by omega)), fun c3 hc3 => ?_⟩
      obtain ⟨S7, W7, s7, h7⟩ := W6.new hc3 (.lst (cutV xs none (some (k : Int)) ++ ms))
      have ha7 := (s46.trans s7) _ _ ha4
      refine ⟨_, e2, _, e4, _, rfl, a, _, rfl, SqL.of (W7.ss _ _ ha7), fun c4 hc4 => ?_⟩
      obtain ⟨S8, W8, s8, h8⟩ := W7.new hc4 (.lst (cutV xs (some (k : Int)) none))
      refine ⟨c3, c4, _, _, rfl, rfl, W8.ss _ _ (s8 _ _ h7), W8.ss _ _ h8, Nat.le_of_lt (small1000 (by rw [List.length_append]; omega)), fun c5 hc5 => ⟨by show 2 ≤ sizeLine; decide, fun e1 he1 => ?_⟩⟩
      obtain ⟨S9, W9, s9, h9⟩ := W8.new hc5 (.lst (cutV xs none (some (k : Int)) ++ ms ++ cutV xs (some (k : Int)) none))
      obtain ⟨S10, W10, s10, h10⟩ := W9.new he1 (.tup [st, .ref c5])
      have s610 : Same S6 S10 := s7.trans (s8.trans (s9.trans s10))
      have ht10 := ht4.mono (s46.trans s610)
      refine q e1 st (.ref c5) (some (os.take k ++ mo ++ os.drop k)) S10 _ W10.pl W10.gr h10 (hst4.mono (s46.trans s610)) (.row (s10 _ _ h9) (pair_cast (by rw [cut_to, cut_from]) rfl (pair_app (pair_app (Tgs.take k ht10) (hmo.mono s610)) (Tgs.drop k ht10))) ?_) fun os' e => ?_
      · intro z
        have := congrArg List.length z
        rw [List.length_append, List.length_append, List.length_take, List.length_drop, List.length_nil] at this
        omega
      · cases e
        refine ⟨?_, fun _ => ⟨t0, ?_⟩⟩
        · rw [List.length_append, List.length_append, List.length_take, List.length_drop]
          omega
        · have hm : some t0 ∈ os.take k ++ os.drop k := by rw [List.take_append_drop]; exact ht0
          rcases List.mem_append.mp hm with h | h
          · exact List.mem_append_left _ (List.mem_append_left _ h)
          · exact List.mem_append_right _ h
    -- kind 0
    refine ⟨_, rfl, rfl, _, rfl, ?_⟩
    by_cases k0 : kd = 0
    · rw [decide_eq_true (by rw [k0])]
      refine ⟨_, rfl, _, rfl, by show 1 ≤ sizeLine; decide, fun c1 hc1 => ⟨by show 1 ≤ sizeLine; decide, fun c2 hc2 => ⟨_, _, rfl, rfl, ⟨by decide, by decide, by decide⟩, by show 9 ≤ sizeLine; decide, fun l hl => ?_⟩⟩⟩
      obtain ⟨S5, W5, s5, h5⟩ := W4.new hc1 (.tup [.int 0])
      obtain ⟨S6, W6, s6, h6⟩ := W5.new hc2 (.lst [.int 0])
      obtain ⟨L1, eL1⟩ : ∃ L1 : List V, L1 = [.int (-1), .int 100, .bl true, .bl false, .str "0", .non, .ref c1, .ref c2, .int ((10 : Int) ^ (20 : Int).toNat)] := ⟨_, rfl⟩
      obtain ⟨S7, W7, s7, h7⟩ := W6.new hl (.lst L1)
      have aL1 : ∀ v ∈ L1, StartQ K S6 v := fun v hv => by
        rw [eL1] at hv
        simp only [List.mem_cons, List.not_mem_nil, or_false] at hv
        rcases hv with rfl | rfl | rfl | rfl | rfl | rfl | rfl | rfl | rfl
        · exact ⟨_, _, kd_int K _ _, .int _, by decide, by decide⟩
        · exact ⟨_, _, kd_int K _ _, .int _, by decide, by decide⟩
        · exact ⟨_, _, kd_bl K _ _, .bl _, by decide, by decide⟩
        · exact ⟨_, _, kd_bl K _ _, .bl _, by decide, by decide⟩
        · exact ⟨_, _, kd_str K _ (by decide +kernel), .str _, by decide +kernel, by decide⟩
        · exact ⟨_, _, kd_non K _, .non, by decide, by decide⟩
        · exact ⟨_, _, kd_tup K (s6 _ _ h5), .tup (SqT.of (s6 _ _ h5)) (.cons (.int 0) .nil), by decide, by decide⟩
        · exact ⟨_, _, kd_lst K h6, .lst (SqL.of h6) (.cons (.int 0) .nil), by decide, by decide⟩
        · exact ⟨_, _, kd_int K _ _, .int _, by decide, by decide⟩
      have nl : l ≠ p := fun z => W6.pl.has (by rw [← z]; exact hl)
      have hl9 : L1.length = 9 := by rw [eL1]; rfl
      subst eL1
      refine ⟨p, l, S7, _, rfl, W7.pl, W7.ss _ _ h7, nl, by omega, by omega, fun j v S8 H8 hv P8 g8 => ?_⟩
      obtain ⟨W8, s8⟩ := W7.then_ P8 g8
      have s48 : Same S4 S8 := s5.trans (s6.trans (s7.trans s8))
      refine ⟨_, rfl, by show 2 ≤ sizeLine; decide, fun e1 he1 => ?_⟩
      obtain ⟨S9, W9, s9, h9⟩ := W8.new he1 (.tup [v, .ref a])
      exact q e1 v (.ref a) (some os) S9 _ W9.pl W9.gr h9 ((aL1 v (List.mem_of_getElem? hv)).mono (s7.trans (s8.trans s9))) (.row ((s48.trans s9) _ _ ha4) (ht4.mono (s48.trans s9)) (List.length_pos_iff.mp los)) fun os' e => by
        cases e
        exact ⟨by omega, fun _ => ⟨t0, ht0⟩⟩
    rw [decide_eq_false (fun e => k0 (V.int.inj e))]
    -- kind 1
    refine ⟨_, rfl, rfl, _, rfl, ?_⟩
    by_cases k1 : kd = 1
    · rw [decide_eq_true (by rw [k1])]
      refine ⟨_, rfl, _, rfl, by show 0 ≤ sizeLine; decide, fun c1 hc1 => ⟨by show 0 ≤ sizeLine; decide, fun c2 hc2 => fun c3 hc3 => fun c4 hc4 => ?_⟩⟩
      obtain ⟨S5, W5, s5, h5⟩ := W4.new hc1 (.lst [])
      obtain ⟨S6, W6, s6, h6⟩ := W5.new hc2 (.tup [])
      obtain ⟨S7, W7, s7, h7⟩ := W6.new hc3 (.dK [])
      have n4 : H c4 = none := W7.gr.bk hc4
      have sl4 := W7.ss.free hc4
      have np4 : c4 ≠ p := fun z => W7.pl.has (by rw [← z]; exact hc4)
      refine ⟨_, rfl, upd_same, [(.inl 0, .ref a0)], rfl, by show 1 ≤ 15; decide, ?_⟩
      obtain ⟨S8, W8, s8, h8⟩ := ((W7.put (o := .dK []) n4 sl4 np4).put (o := .dK (mergeK [] [(.inl 0, .ref a0)])) n4 sl4 np4).fix upd_same n4 sl4 np4
      have s48 : Same S4 S8 := s5.trans (s6.trans (s7.trans s8))
      have ha8 := s48 _ _ ha4
      refine ⟨_, rfl, a, 21, xs, rfl, rfl, W8.ss _ _ ha8, by decide, by decide, ?_, fun c5 hc5 => ?_⟩
      · show xs.length * 21 ≤ sizeLine
        exact Nat.le_trans (Nat.mul_le_mul_right 21 (show xs.length ≤ 50 by omega)) (by decide)
      obtain ⟨S9, W9, s9, h9⟩ := W8.new hc5 (.lst (List.replicate 21 xs).flatten)
      refine ⟨_, rfl, c5, _, rfl, SqL.of (W9.ss _ _ h9), fun c6 hc6 => ?_⟩
      obtain ⟨S10, W10, s10, h10⟩ := W9.new hc6 (.lst (cutV (List.replicate 21 xs).flatten none (some 21)))
      have ec : cutV (List.replicate 21 xs).flatten none (some 21) = (List.replicate 21 xs).flatten.take 21 := cut_to _ 21
      refine ⟨by show 8 ≤ sizeLine; decide, fun l hl => ?_⟩
      obtain ⟨L1, eL1⟩ : ∃ L1 : List V, L1 = [.ref c1, .ref c2, .non, .int 5, .str "ab", .ref c3, .ref c4, .ref c6] := ⟨_, rfl⟩
      obtain ⟨S11, W11, s11, h11⟩ := W10.new hl (.lst L1)
      have ht10 : Tgs K S10 ((List.replicate 21 xs).flatten.take 21) ((List.replicate 21 os).flatten.take 21) := Tgs.take 21 (tgs_rep (ht4.mono (s48.trans (s9.trans s10))) 21)
      have t8 : Same S8 S10 := s9.trans s10
      have t7 : Same S7 S10 := s8.trans t8
      have t6 : Same S6 S10 := s7.trans t7
      have t5 : Same S5 S10 := s6.trans t6
      obtain ⟨o0, r0, eo⟩ : ∃ o0 r0, os = o0 :: r0 := by
        cases os with
        | nil => simp at los
        | cons o r => exact ⟨o, r, rfl⟩
      have eos : (List.replicate 21 os).flatten.take 21 = o0 :: (r0 ++ (List.replicate 20 os).flatten).take 20 := by
        rw [show List.replicate 21 os = os :: List.replicate 20 os from rfl, List.flatten_cons]
        generalize (List.replicate 20 os).flatten = zz
        rw [eo]
        rfl
      have aL1 : ∀ v ∈ L1, ∃ r', RowM K S10 v r' ∧ ∀ os', r' = some os' → os'.length ≤ os.length + 21 ∧ ((∀ o ∈ os, o ≠ none) → ∃ t, some t ∈ os') := fun v hv => by
        rw [eL1] at hv
        simp only [List.mem_cons, List.not_mem_nil, or_false] at hv
        rcases hv with rfl | rfl | rfl | rfl | rfl | rfl | rfl | rfl
        · exact ⟨none, .bad (.empty (.inl (t5 _ _ h5))), fun _ e => by cases e⟩
        · exact ⟨none, .bad (.empty (.inr (t6 _ _ h6))), fun _ e => by cases e⟩
        · exact ⟨none, .bad (.bad (kd_non K _) (by decide) (by decide)), fun _ e => by cases e⟩
        · exact ⟨none, .bad (.bad (kd_int K _ _) (by decide) (by decide)), fun _ e => by cases e⟩
        · exact ⟨none, .bad (.bad (kd_str K _ (by decide +kernel)) (by decide) (by decide)), fun _ e => by cases e⟩
        · exact ⟨none, .bad (.bad (kd_dic K (t7 _ _ h7)) (by decide) (by decide)), fun _ e => by cases e⟩
        · exact ⟨none, .bad (.bad (kd_dic K (t8 _ _ h8)) (by decide) (by decide)), fun _ e => by cases e⟩
        · refine ⟨_, .row h10 (by rw [ec]; exact ht10) (by rw [eos]; simp), fun os' e => ?_⟩
          cases e
          refine ⟨by rw [List.length_take]; omega, fun hall => ?_⟩
          cases h0 : o0 with
          | none => exact absurd h0 (hall o0 (by rw [eo]; exact List.mem_cons_self))
          | some u => exact ⟨u, by rw [eos, h0]; exact List.mem_cons_self⟩
      have nl : l ≠ p := fun z => W10.pl.has (by rw [← z]; exact hl)
      have hl9 : L1.length = 8 := by rw [eL1]; rfl
      subst eL1
      refine ⟨p, l, S11, _, rfl, W11.pl, W11.ss _ _ h11, nl, by omega, by omega, fun j v S12 H12 hv P12 g12 => ?_⟩
      obtain ⟨W12, s12⟩ := W11.then_ P12 g12
      refine ⟨by show 2 ≤ sizeLine; decide, fun e1 he1 => ?_⟩
      obtain ⟨S13, W13, s13, h13⟩ := W12.new he1 (.tup [st, v])
      obtain ⟨r', hr', hq'⟩ := aL1 v (List.mem_of_getElem? hv)
      exact q e1 st v r' S13 _ W13.pl W13.gr h13 (hst4.mono (s48.trans (t8.trans (s11.trans (s12.trans s13))))) (hr'.mono (s11.trans (s12.trans s13))) hq'
    rw [decide_eq_false (fun e => k1 (V.int.inj e))]
    -- kind 2
    refine ⟨_, rfl, rfl, _, rfl, ?_⟩
    by_cases k2 : kd = 2
    · rw [decide_eq_true (by rw [k2])]
      refine ⟨_, rfl, _, rfl, _, rfl, _, rfl, a, _, rfl, SqL.of (W4.ss _ _ ha4), fun c1 hc1 => ?_⟩
      obtain ⟨S5, W5, s5, h5⟩ := W4.new hc1 (.lst (cutV xs none (some (k : Int))))
      refine ⟨_, rfl, by show 1 ≤ sizeLine; decide, fun c2 hc2 => ?_⟩
      obtain ⟨S6, W6, s6, h6⟩ := W5.new hc2 (.lst [.ref a0])
      exact put _ S6 _ c1 c2 [.ref a0] [some t] rfl rfl W6 (s5.trans s6) (s6 _ _ h5) h6 (.cons (.yes ⟨a0, rfl, (s5.trans s6) _ _ hs4⟩ hok) .nil) (by show 1 ≤ 3; decide)
    rw [decide_eq_false (fun e => k2 (V.int.inj e))]
    -- kind 3
    refine ⟨_, rfl, rfl, _, rfl, ?_⟩
    by_cases k3 : kd = 3
    · rw [decide_eq_true (by rw [k3])]
      refine ⟨3, rfl, by decide, by decide, fun D2 hD2 => ?_⟩
      have n2 : H D2 = none := W4.gr.bk hD2
      have sl2 := W4.ss.free hD2
      have np2 : D2 ≠ p := fun z => W4.pl.has (by rw [← z]; exact hD2)
      refine lc_range (lo := 0) (n := 3) (fun i H' => ∃ (S' : Hp) (ms : List V) (mo : List (Option Stp)), Wd p S H S' H' ∧ Same S4 S' ∧ S' D2 = none ∧ H' D2 = some (.lst ms) ∧ Tgs K S' ms mo ∧ mo.length = i) ⟨S4, [], [], W4.put n2 sl2 np2, Same.refl _, sl2, upd_same, .nil, rfl⟩ ?_ ?_
      · rintro i H' hi ⟨S', ms, mo, W', s', sl', hD', hmo, lmo⟩
        have hs' := W'.ss _ _ (s' _ _ hs4)
        have lms : ms.length = mo.length := Paired.length hmo
        refine ⟨rfl, _, rfl, a0, _, 0, _, rfl, rfl, SqT.of hs', atI_nat (j := 0) rfl, _, rfl, a0, _, 1, _, rfl, rfl, SqT.of hs', atI_nat (j := 1) rfl, _, rfl, _, _, rfl, rfl, by show 3 ≤ sizeLine; decide, fun c hc => ?_⟩
        obtain ⟨W6, s6, h6⟩ := W'.alloc hc (.tup [.int t.1, .str t.2.1, .int (91 + (0 + (i : Int)))])
        have ncD : D2 ≠ c := fun z => by rw [← z, hD'] at hc; cases hc
        have sl6 : upd S' c (.tup [.int t.1, .str t.2.1, .int (91 + (0 + (i : Int)))]) D2 = none := (upd_ne ncD).trans sl'
        refine ⟨ms, (upd_ne ncD).trans hD', small1000 (by omega), _, ms ++ [.ref c], mo ++ [some (t.1, t.2.1, 91 + (0 + (i : Int)))], W6.put n2 sl6 np2, s'.trans s6, sl6, upd_same, paired_snoc (hmo.mono s6) (.yes ⟨c, rfl, h6⟩ ⟨hok.1, hok.2.1, by show (0 : Int) ≤ 91 + (0 + (i : Int)); omega, by show 91 + (0 + (i : Int)) ≤ 99; omega⟩), by rw [List.length_append, List.length_singleton, lmo]⟩
      rintro H' ⟨S', ms, mo, W', s', sl', hD', hmo, lmo⟩
      obtain ⟨S5, W5, s5, h5⟩ := W'.fix hD' n2 sl' np2
      refine ⟨_, rfl, _, rfl, _, rfl, _, rfl, a, _, rfl, SqL.of (W5.ss _ _ ((s'.trans s5) _ _ ha4)), fun c1 hc1 => ?_⟩
      obtain ⟨S6, W6, s6, h6⟩ := W5.new hc1 (.lst (cutV xs none (some (k : Int))))
      exact ⟨_, rfl, put _ S6 _ c1 D2 ms mo rfl rfl W6 (s'.trans (s5.trans s6)) h6 (s6 _ _ h5) (hmo.mono (s5.trans s6)) (by omega)⟩
    rw [decide_eq_false (fun e => k3 (V.int.inj e))]
    -- kinds 4, 5, 6
    refine ⟨_, rfl, _, _, rfl, rfl, _, rfl, ?_⟩
    by_cases k7 : kd < 7
    · rw [decide_eq_true k7]
      refine ⟨_, rfl, _, rfl, _, rfl, _, rfl, a, _, rfl, SqL.of (W4.ss _ _ ha4), fun c1 hc1 => ?_⟩
      obtain ⟨S5, W5, s5, h5⟩ := W4.new hc1 (.lst (cutV xs none (some (k : Int))))
      refine ⟨_, rfl, _, rfl, p, a0, t, S5, rfl, W5.pl, s5 _ _ hs4, hok, fun v S6 H6 P6 g6 hv => ⟨by show 1 ≤ sizeLine; decide, fun c2 hc2 => ?_⟩⟩
      obtain ⟨W6, s6⟩ := W5.then_ P6 g6
      obtain ⟨S7, W7, s7, h7⟩ := W6.new hc2 (.lst [v])
      exact put _ S7 _ c1 c2 [v] [none] rfl rfl W7 (s5.trans (s6.trans s7)) ((s6.trans s7) _ _ h5) h7 (.cons (.no (hv.mono s7)) .nil) (by decide)
    rw [decide_eq_false k7]
    refine ⟨_, rfl, _, rfl, by show 2 ≤ sizeLine; decide, fun e1 he1 => ?_⟩
    obtain ⟨S5, W5, s5, h5⟩ := W4.new he1 (.tup [st, .ref a])
    exact q e1 st (.ref a) (some os) S5 _ W5.pl W5.gr h5 (hst4.mono s5) (.row (s5 _ _ ha4) (ht4.mono s5) (List.length_pos_iff.mp los)) fun os' e => by
      cases e
      exact ⟨by omega, fun _ => ⟨t0, ht0⟩⟩
end
end WW

set_option Elab.async false
set_option linter.all false
set_option maxRecDepth 100000
set_option maxHeartbeats 4000000
namespace WW
open PySem PySem.Spec PyProof.Rows L2
theorem RowM.rowQ {K : PySem.W.Frag} {S : Hp} {v : V} {r : Option (List (Option Stp))} (h : RowM K S v r) (l : ∀ os, r = some os → os.length ≤ 100) : RowQ K S v r := by
  cases h with
  | bad h => exact h
  | row h t n => exact .row (.inl h) t n (l _ rfl)
theorem RowM.notT {K : PySem.W.Frag} {S : Hp} {v : V} {r : Option (List (Option Stp))} (h : RowM K S v r) {H : Hp} (s : Same S H) : ∀ a xs, v = .ref a → H a = some (.tup xs) → r = none := by
  intro a xs ev ha
  cases h with
  | bad h => rfl
  | row h t n =>
    cases ev
    rw [s _ _ h] at ha
    cases ha
theorem stps_tgs {K : PySem.W.Frag} {S : Hp} : ∀ {xs : List V} {ts : List Stp}, Stps S xs ts → (∀ t ∈ ts, StpOk t) → Tgs K S xs (ts.map some)
  | _, _, .nil, _ => .nil
  | _, _, .cons h1 h2, ok => .cons (.yes h1 (ok _ (by simp))) (stps_tgs h2 fun t ht => ok t (by simp [ht]))
/-- a new hand in the world -/
theorem Wd.made {p : Addr} {S0 H0 S H H' : Hp} {C x dx r : Addr} {b : Int} {xs : List V} {ts : List Stp} (w : Wd p S0 H0 S H) (nx : H x = none) (ndx : H dx = none) (nr : upd (upd H dx (.own x)) x (.ins C dx []) r = none)
    (keep : KeepB x (upd (upd H dx (.own x)) x (.ins C dx [])) H') (hx : H' x = some (.ins C dx (hfs b r))) (hr : H' r = some (.tup xs)) (hst : Stps S xs ts) :
    ∃ S', Wd p S0 H0 S' H' ∧ Same S S' ∧ HandAt C S' x b ts ∧ (∀ c, H c ≠ none → S c = none → S' c = none) := by
  have nrx : r ≠ x := fun z => by rw [z, upd_same] at nr; cases nr
  have nrd : r ≠ dx := fun z => by
    rw [z] at nr nrx
    rw [upd_ne nrx, upd_same] at nr
    cases nr
  have nr0 : H r = none := by
    rw [upd_ne nrx, upd_ne nrd] at nr
    exact nr
  have kp : ∀ c o, H c = some o → H' c = some o := fun c o h => keep c o (ne_of_none h nx) (by rw [upd_ne (ne_of_none h nx), upd_ne (ne_of_none h ndx)]; exact h)
  have sx : S x = none := w.ss.free nx
  have sr : S r = none := w.ss.free nr0
  have s1 : Same S (upd (upd S x (.ins C dx (hfs b r))) r (.tup xs)) := (same_upd sx).trans (same_upd (by rw [upd_ne nrx]; exact sr))
  have w' : Wd p S0 H0 S H' := w.more kp
  have npx : x ≠ p := fun z => w.pl.has (by rw [← z]; exact nx)
  have npr : r ≠ p := fun z => w.pl.has (by rw [← z]; exact nr0)
  have sr2 : upd S x (.ins C dx (hfs b r)) r = none := (upd_ne nrx).trans sr
  refine ⟨upd (upd S x (.ins C dx (hfs b r))) r (.tup xs), ⟨(w'.pl.fix hx sx npx).fix hr sr2 npr, (w'.gr.fix (w.gr.bk nx) sx).fix (w.gr.bk nr0) sr2⟩, s1, ⟨dx, r, xs, (upd_ne nrx.symm).trans upd_same, upd_same, hst.mono s1⟩, fun c hc sc => ?_⟩
  rw [upd_ne (fun z => hc (by rw [z]; exact nr0)), upd_ne (fun z => hc (by rw [z]; exact nx))]
  exact sc
theorem HandAt.ins {C : Addr} {H : Hp} {h : Addr} {b : Int} {ts : List Stp} (x : HandAt C H h b ts) : ∃ dx fs, H h = some (.ins C dx fs) := by
  obtain ⟨dx, r, xs, h1, _⟩ := x
  exact ⟨dx, _, h1⟩
theorem duV_data {K : PySem.W.Frag} {S : Hp} {st : V} {r : Option (List (Option Stp))} {z : Str} {y : V} (h : StartQ K S st) (e : dueV st r = (z, y)) : (∃ d, Dp K S y d ∧ d.canLay0 = true ∧ d.depth ≤ 2) ∧ PyData.strOk z = true ∧ (z = "hand" → btw 0 99 st = true ∧ dueR r = none) := by
  cases hb : btw 0 99 st with
  | false =>
    rw [dueV_start hb] at e
    cases e
    obtain ⟨n, d, _, h2, h3, h4⟩ := h
    exact ⟨⟨d, h2, h3, h4⟩, by decide +kernel, fun z => absurd z (by decide +kernel)⟩
  | true =>
    cases hr : dueR r with
    | some i =>
      rw [dueV_steps hb hr] at e
      cases e
      exact ⟨⟨_, .int _, rfl, Nat.zero_le _⟩, by decide +kernel, fun z => absurd z (by decide +kernel)⟩
    | none =>
      rw [dueV_hand hb hr] at e
      cases e
      exact ⟨⟨_, .int _, rfl, Nat.zero_le _⟩, by decide +kernel, fun _ => ⟨rfl, rfl⟩⟩
def wdV (H : Hp) (v : V) : Option V := match v with
  | .ref a => match H a with
    | some (.tup [_, .str z, _]) => some (.str z)
    | _ => none
  | _ => none
theorem wdV_all {H : Hp} : ∀ {xs : List V} {ts : List Stp}, Stps H xs ts → xs.filterMap (wdV H) = (ts.map (·.2.1)).map V.str
  | _, _, .nil => rfl
  | _, _, .cons (a := v) (b := t) r q => by
    have ih := wdV_all q
    obtain ⟨a, rfl, ha⟩ := r
    have e : wdV H (.ref a) = some (.str t.2.1) := by
      unfold wdV
      simp only [ha, stpV]
    rw [List.filterMap_cons, e]
    simp only [List.map_cons]
    rw [ih]
theorem strs_dp {K : PySem.W.Frag} {H : Hp} : ∀ zs : List Str, DpAll K H (zs.map V.str) (zs.map PyData.str)
  | [] => .nil
  | z :: r => .cons (.str z) (strs_dp r)
theorem strs_lay : ∀ {zs : List Str}, (∀ z ∈ zs, NameOk z) → PyData.canLayAll0 (zs.map PyData.str) = true ∧ PyData.depthAll (zs.map PyData.str) = 0
  | [], _ => by simp [PyData.canLayAll0, PyData.depthAll]
  | z :: r, h => by
    have ih := strs_lay (zs := r) fun y hy => h y (by simp [hy])
    simp [PyData.canLayAll0, PyData.depthAll, PyData.canLay0, PyData.depth, name_sok (h z (by simp)), ih.1, ih.2]
theorem strs_shaped {zs : List Str} (h : ∀ z ∈ zs, NameOk z) : SeqAt.shaped (.list (zs.map PyData.str)) = true := by
  have h1 := strs_lay h
  show (PyData.canLay0 (.list (zs.map PyData.str)) && decide (PyData.depth (.list (zs.map PyData.str)) ≤ 64)) = true
  rw [Bool.and_eq_true]
  exact ⟨by simp only [PyData.canLay0]; exact h1.1, decide_eq_true (by simp only [PyData.depth]; omega)⟩
theorem words_ok {ts : List Stp} (h : ∀ t ∈ ts, StpOk t) : ∀ z ∈ wordsOf ts, NameOk z := fun z hz => by
  have h1 := (List.mergeSort_perm _ _).mem_iff.mp hz
  rw [mem_ddS] at h1
  obtain ⟨t, ht, rfl⟩ := List.mem_map.mp h1
  exact (h t ht).2.1
theorem ddS_len : ∀ l : List Str, (ddS l).length ≤ l.length
  | [] => Nat.le_refl _
  | y :: r => by
    have h1 := ddS_len r
    have h2 := insG_len y (ddS r)
    show (insG y (ddS r)).length ≤ r.length + 1
    omega
theorem words_len (ts : List Stp) : (wordsOf ts).length ≤ ts.length := by
  have h := ddS_len (ts.map (·.2.1))
  rw [List.length_map] at h
  show ((ddS (ts.map (·.2.1))).mergeSort leS).length ≤ _
  rw [List.length_mergeSort]
  exact h
theorem dueR_none {os : List (Option Stp)} (h : dueR (some os) = none) : ∃ ts : List Stp, os = ts.map some ∧ os.length ≤ 20 := by
  have h' : (if 20 < os.length then some (-1) else Option.map (fun n : Nat => (n : Int)) (badF [] 0 os)) = none := h
  by_cases h20 : 20 < os.length
  · rw [if_pos h20] at h'
    cases h'
  · rw [if_neg h20] at h'
    have key : ∀ (acc : List Stp) (i : Nat) (os : List (Option Stp)), badF acc i os = none → ∃ ts : List Stp, os = ts.map some := by
      intro acc i os
      induction os generalizing acc i with
      | nil => intro _; exact ⟨[], rfl⟩
      | cons o r ih =>
        cases o with
        | none => intro e; cases e
        | some t =>
          intro e
          have e' : (if t ∈ acc ∨ cnt t.1 acc = 3 then some i else badF (acc ++ [t]) (i + 1) r) = none := e
          split at e'
          · cases e'
          · obtain ⟨ts, rfl⟩ := ih _ _ e'
            exact ⟨t :: ts, rfl⟩
    have h2 : badF [] 0 os = none := by
      cases hb : badF [] 0 os with
      | none => rfl
      | some n =>
        rw [hb] at h'
        cases h'
    obtain ⟨ts, e⟩ := key [] 0 os h2
    exact ⟨ts, e, by omega⟩
theorem Tgs.ok {K : PySem.W.Frag} {S : Hp} : ∀ {xs : List V} {ts : List Stp}, Tgs K S xs (ts.map some) → ∀ t ∈ ts, StpOk t
  | _, [], _, t, h => by cases h
  | _, t :: r, h, u, hu => by
    cases h with
    | cons h1 h2 =>
      rcases List.mem_cons.mp hu with rfl | hu
      · cases h1 with
        | yes a b => exact b
      · exact Tgs.ok h2 u hu
section
variable {P : Program} {w : World} {K : PySem.W.Frag} {mg : Str → Option Value} {base : Heap} {CH CB CS : Addr}
abbrev sLaw : Stmt := topS 34
abbrev nLaw : List Str := ["_law_script", "_law_pool_here", "_law_times", "_law_start", "_law_steps", "_law_k", "_law_due_here", "_law_passed", "_law_hand", "_law_words", "_law_step"]
theorem scLaw : FnScope nLaw ["_law_script"] (defScope sLaw) := ⟨rfl, rfl, rfl, by decide +kernel, rfl, by decide +kernel, by decide +kernel⟩
def spLaw (K : PySem.W.Frag) : Sp := fun vs H Q _ => ∃ (a : Addr) (ns : List Int), vs = [.ref a] ∧ SqL K H a (ns.map V.int) ∧ ns.length ≤ 63 ∧ ∀ H', Q (.bl true) H'
theorem ok_law {f fP fD fR fO fU fT fI fB fS fW pB pS pW : Addr} {fd fdP fdD fdR fdO fdU fdT fdI fdB fdS fdW : FuncData} (F : Fun K "law" "law" sLaw f fd) (T : Bl mg) (Tset : mg "set" = none) (HC : HandC K mg CH)
    (DLpool : Df K mg "_law_pool" sLpool ["_law_script"] fP fdP) (GLpool : FnOk P w K mg base CX0 1 fP fdP ["_law_script"] (spPool K))
    (DLdraw : Df K mg "_law_draw" sLdraw ["_law_pool_here", "_law_many"] fD fdD) (GLdraw : FnOk P w K mg base CX0 1 fD fdD ["_law_pool_here", "_law_many"] spDraw)
    (DLrow : Df K mg "_law_row" sLrow ["_law_pool_here"] fR fdR) (GLrow : FnOk P w K mg base CX0 4 fR fdR ["_law_pool_here"] spRowL)
    (DLspoilt : Df K mg "_law_spoilt" sLspoilt ["_law_pool_here", "_law_start", "_law_steps"] fO fdO) (GLspoilt : FnOk P w K mg base CX0 4 fO fdO ["_law_pool_here", "_law_start", "_law_steps"] (spSpoilt K))
    (DLdue : Df K mg "_law_due" sLdue ["_law_start", "_law_steps"] fU fdU) (GLdue : FnOk P w K mg base CX0 4 fU fdU ["_law_start", "_law_steps"] (spDue K))
    (DLtold : Df K mg "_law_told" sLtold ["_law_start", "_law_steps"] fT fdT) (GLtold : FnOk P w K mg base CX0 8 fT fdT ["_law_start", "_law_steps"] (spTold K))
    (MHand : Mk K CH fI) (GIHand : FnOk P w K mg base (L2.CX P w) 6 fI fdI ["self", "start", "steps"] (spHInitX K CH CB CS)) (bIHand : Binds K fdI ["self", "start", "steps"] [])
    (pHB : PropOf K CH "start" pB fB) (GHB : FnOk P w K mg base CX0 1 fB fdB ["self"] (spHStart CH)) (bHB : Binds K fdB ["self"] [])
    (pHS : PropOf K CH "steps" pS fS) (GHS : FnOk P w K mg base CX0 1 fS fdS ["self"] (spHSteps CH)) (bHS : Binds K fdS ["self"] [])
    (pHW : PropOf K CH "words" pW fW) (GHW : FnOk P w K mg base CX0 1 fW fdW ["self"] (spHWords CH)) (bHW : Binds K fdW ["self"] []) :
    FnOk P w K mg base CX0 9 f fd ["_law_script"] (spLaw K) := by
  refine F.ok scLaw (fun vs H Q E h => ?_) (fun cdv A outer s H vs Q E hr h => ?_)
  · obtain ⟨a, ns, rfl, _⟩ := h
    rfl
  · obtain ⟨a, ns, rfl, hS, hlen, q⟩ := h
    refine ⟨_, (pss_cons (ps_set (i := 1) scLaw.nd rfl (Or.inl rfl) (pe_df DLpool GLpool (hr.mono (by decide)) (pa_cons (pv 0) pa_nil)))
      (pss_cons (ps_set (i := 2) scLaw.nd rfl (Or.inl rfl) (pe_df DLdraw GLdraw (hr.mono (by decide)) (pa_cons (pv 1) (pa_cons pe_int pa_nil))))
      (pss_cons (ps_asg (pe_df DLrow GLrow (hr.mono (by decide)) (pa_cons (pv 1) pa_nil)) (pg_tup rfl (pgs_cons (pg_name (i := 3) scLaw.nd rfl (Or.inl rfl)) (pgs_cons (pg_name (i := 4) scLaw.nd rfl (Or.inl rfl)) pgs_nil))))
      (pss_cons (ps_for PassesOwn.never rfl (pi_range1 (by rfl) T.range (pa_cons (pv 2) pa_nil)) (pg_name (i := 5) scLaw.nd rfl (Or.inl rfl)) (pss_one (ps_if (PW.pt (pw_and (pt_val (pe_callB call_isi (by rfl) T.isinstance (by decide +kernel) (pa_cons (pv 4) (pa_cons (pe_bltn (v := .ty "list") (by rfl) T.list (by decide +kernel) rfl) pa_nil)))) (pw_and1 (pt_cmpR op_gt (pe_callB call_len (by rfl) T.len (by decide +kernel) (pa_cons (pv 4) pa_nil)) pe_int (nomark _))))) (pss_one (ps_asg (pe_df DLspoilt GLspoilt (hr.mono (by decide)) (pa_cons (pv 1) (pa_cons (pv 3) (pa_cons (pv 4) pa_nil)))) (pg_tup rfl (pgs_cons (pg_name (i := 3) scLaw.nd rfl (Or.inl rfl)) (pgs_cons (pg_name (i := 4) scLaw.nd rfl (Or.inl rfl)) pgs_nil))))) pss_nil)))
      (pss_cons (ps_set (i := 6) scLaw.nd rfl (Or.inl rfl) (pe_df DLdue GLdue (hr.mono (by decide)) (pa_cons (pv 3) (pa_cons (pv 4) pa_nil))))
      (pss_cons (ps_if (pt_cmpR (op_neD hr.units) (pe_df DLtold GLtold (hr.mono (by decide)) (pa_cons (pv 3) (pa_cons (pv 4) pa_nil))) (pe_tup (pa_cons (pe_ix ix_tup (pv 6) pe_int (fun _ _ => rfl)) (pa_cons (pe_ix ix_tup (pv 6) pe_int (fun _ _ => rfl)) (pa_cons pe_bl pa_nil)))) (nomark _)) (pss_one (ps_ret pe_bl)) pss_nil)
      (pss_cons (ps_if (pt_cmpR op_ne (pe_ix ix_tup (pv 6) pe_int (fun _ _ => rfl)) pe_str (nomark _)) (pss_one (ps_ret pe_bl)) pss_nil)
      (pss_cons (ps_set (i := 7) scLaw.nd rfl (Or.inl rfl) (pe_callTy call_list_of (by rfl) T.list (by decide +kernel) (pa_cons (pv 4) pa_nil)))
      (pss_cons (ps_set (i := 8) scLaw.nd rfl (Or.inl rfl) (pe_makeS MHand GIHand (hr.mono (by decide)) (by rfl) HC.mgC bIHand (fun σ => passAt takes0 σ) (pa_cons (pv 3) (pa_cons (pv 7) pa_nil))))
      (pss_cons (ps_expr (pe_bm PySem.F.plainAttrs_list PySem.F.slot_list_append PySem.F.type_list_append mt_append (pv 7) (pa_cons (pe_ix ix_list (pv 7) pe_int (fun _ _ => rfl)) pa_nil)))
      (pss_cons (ps_expr (pe_bm0 PySem.F.plainAttrs_list PySem.F.slot_list_reverse PySem.F.type_list_reverse mt_reverse (pv 7)))
      (pss_cons (ps_set (i := 9) scLaw.nd rfl (Or.inl rfl) (pe_callB (cr_sortedSt rfl (hu70 hr)) (by rfl) T.sorted (by decide +kernel) (pa_cons (pe_callTy (cr_setOfS rfl) (by rfl) Tset (by decide +kernel) (pa_cons (pe_lc (own := [("_law_step", 10)]) rfl scLaw.nd (pi_list (pv 4)) (blkOk_by (own := [("_law_step", 10)]) (N := nLaw) (sc := defScope sLaw) (by decide +kernel)) (fun _ _ _ _ _ => (pg_name (i := 10) scLaw.nd rfl (Or.inl rfl))) (fun _ _ _ _ _ => pts_nil) (fun _ _ _ _ _ => (pe_ix (r := rIxT K) ix_tup (pv 10) pe_int (fun _ _ => rfl)))) pa_nil)) pa_nil)))
      (pss_cons (ps_if (PW.pt (pw_or (pt_cmpR op_ne (pe_prop (pv 8) HC.cl pHB GHB (hr.mono (by decide)) bHB .nil pass0 rfl) (pv 3) (nomark _)) (pw_or (pt_cmpR (op_neD hr.units) (pe_prop (pv 8) HC.cl pHS GHS (hr.mono (by decide)) bHS .nil pass0 rfl) (pe_callTy call_tuple_of (by rfl) T.tuple (by decide +kernel) (pa_cons (pv 4) pa_nil)) (nomark _)) (pw_or (pt_not (pt_val (pe_callB call_isi (by rfl) T.isinstance (by decide +kernel) (pa_cons (pe_prop (pv 8) HC.cl pHW GHW (hr.mono (by decide)) bHW .nil pass0 rfl) (pa_cons (pe_bltn (v := .ty "list") (by rfl) T.list (by decide +kernel) rfl) pa_nil))))) (pw_or1 (pt_cmpR (op_neD hr.units) (pe_prop (pv 8) HC.cl pHW GHW (hr.mono (by decide)) bHW .nil pass0 rfl) (pv 9) (nomark _))))))) (pss_one (ps_ret pe_bl)) pss_nil)
      (pss_cons (ps_expr (pe_bm PySem.F.plainAttrs_list PySem.F.slot_list_append PySem.F.type_list_append mt_append (pe_prop (pv 8) HC.cl pHW GHW (hr.mono (by decide)) bHW .nil pass0 rfl) (pa_cons pe_str pa_nil)))
      (pss_cons (ps_expr (pe_bm0 PySem.F.plainAttrs_list PySem.F.slot_list_clear PySem.F.type_list_clear mt_clear (pe_prop (pv 8) HC.cl pHW GHW (hr.mono (by decide)) bHW .nil pass0 rfl)))
      (pss_one (ps_ret (pe_and (pe_cmpR (op_eqD hr.units) (pe_prop (pv 8) HC.cl pHW GHW (hr.mono (by decide)) bHW .nil pass0 rfl) (pv 9) (nomark _)) (pe_one (pe_cmpR (op_eqD hr.units) (pe_prop (pe_makeS MHand GIHand (hr.mono (by decide)) (by rfl) HC.mgC bIHand (fun σ => passAt takes0 σ) (pa_cons (pv 3) (pa_cons (pe_callTy call_tuple_of (by rfl) T.tuple (by decide +kernel) (pa_cons (pv 4) pa_nil)) pa_nil))) HC.cl pHS GHS (hr.mono (by decide)) bHS .nil pass0 rfl) (pe_callTy call_tuple_of (by rfl) T.tuple (by decide +kernel) (pa_cons (pv 4) pa_nil)) (nomark _))))))))))))))))))))), ?_⟩
    refine ⟨_, rfl, a, ns, rfl, hS, hlen, fun p S1 H1 P1 sHS => ?_⟩
    have W1 : Wd p S1 H1 S1 H1 := ⟨P1, Gr.refl⟩
    refine ⟨_, rfl, p, S1, 3, rfl, by decide, by decide, P1, fun tm S2 H2 P2 g2 tm0 tm1 => ?_⟩
    obtain ⟨W2, s2⟩ := W1.then_ P2 g2
    refine ⟨_, rfl, p, S2, rfl, P2, fun t r b xs ts S3 H3 P3 g3 ht hr' hst hok hb l1 l2 => ?_⟩
    obtain ⟨W3, s3⟩ := W2.then_ P3 g3
    refine ⟨t, _, rfl, SqT.of (W3.ss _ _ ht), rfl, _, _, rfl, _, _, rfl, rfl, ?_⟩
    have htg : Tgs K S3 xs (ts.map some) := stps_tgs hst hok
    refine ⟨_, rfl, tm, rfl, by omega, by omega, for_range (lo := 0) (n := tm.toNat) (fun k σ H' => ∃ (v5 : Option V) (st v : V) (r : Option (List (Option Stp))) (S' : Hp), σ = [some (.ref a), some (.ref p), some (.int tm), some st, some v, v5, none, none, none, none, none] ∧ Wd p S1 H1 S' H' ∧ StartQ K S' st ∧ RowM K S' v r ∧
      ∀ os, r = some os → os.length ≤ 22 + 21 * k ∧ (k = 0 → ∀ o ∈ os, o ≠ none) ∧ (k ≤ 1 → ∃ t, some t ∈ os)) ?_ ?_ ?_⟩
    · refine ⟨none, .int b, .ref r, some (ts.map some), S3, rfl, W3, ⟨_, _, kd_int K _ _, .int _, rfl, Nat.zero_le _⟩, .row hr' htg (fun e => ?_), fun os e => ?_⟩
      · have := congrArg List.length e
        rw [List.length_map, List.length_nil] at this
        omega
      · cases e
        refine ⟨by rw [List.length_map]; omega, fun _ o ho => ?_, fun _ => ?_⟩
        · obtain ⟨t', _, rfl⟩ := List.mem_map.mp ho
          exact fun z => by cases z
        · cases ts with
          | nil => simp at l1
          | cons t' _ => exact ⟨t', by simp⟩
    · rintro k σ H' hk ⟨v5, st, v, r', S', rfl, W', hsq, hrow, hprop⟩
      have skip : r' = none → ∃ (v5 : Option V) (st' v' : V) (r : Option (List (Option Stp))) (S'' : Hp), [some (.ref a), some (.ref p), some (.int tm), some st, some v, some (.int (0 + (k : Int))), none, none, none, none, none] = [some (.ref a), some (.ref p), some (.int tm), some st', some v', v5, none, none, none, none, none] ∧ Wd p S1 H1 S'' H' ∧ StartQ K S'' st' ∧ RowM K S'' v' r ∧
          ∀ os, r = some os → os.length ≤ 22 + 21 * (k + 1) ∧ (k + 1 = 0 → ∀ o ∈ os, o ≠ none) ∧ (k + 1 ≤ 1 → ∃ t, some t ∈ os) := fun e => by
        subst e
        exact ⟨_, st, v, none, S', rfl, W', hsq, hrow, fun os e => by cases e⟩
      cases hrow with
      | bad hq =>
        cases hq with
        | bad hk' n1 n2 =>
          have hk2 := hk'.mono W'.ss
          refine ⟨_, rfl, _, _, _, _, _, rfl, .ty "list", hk2.1, kit_list hk2.2.1, _, rfl, ?_⟩
          rw [beq_eq_false_iff_ne.mpr n1]
          exact skip rfl
        | empty hrow =>
          rcases hrow with h | h
          · have hk2 := kd_lst K (W'.ss _ _ h)
            refine ⟨_, rfl, _, _, _, _, _, rfl, .ty "list", hk2.1, kit_list hk2.2.1, _, rfl, ?_⟩
            exact ⟨_, rfl, _, 0, rfl, len_row (.inl (W'.ss _ _ h)), _, _, rfl, rfl, _, rfl, skip rfl⟩
          · have hk2 := kd_tup K (W'.ss _ _ h)
            refine ⟨_, rfl, _, _, _, _, _, rfl, .ty "list", hk2.1, kit_list hk2.2.1, _, rfl, ?_⟩
            exact skip rfl
      | @row a' xs' os h' htg' hne =>
        obtain ⟨b1, b2, b3⟩ := hprop os rfl
        have hk2 := kd_lst K (W'.ss _ _ h')
        have lx' : xs'.length = os.length := Paired.length htg'
        have lo' : 0 < os.length := List.length_pos_iff.mpr hne
        refine ⟨_, rfl, _, _, _, _, _, rfl, .ty "list", hk2.1, kit_list hk2.2.1, _, rfl, ?_⟩
        refine ⟨_, rfl, _, xs'.length, rfl, len_row (.inl (W'.ss _ _ h')), _, _, rfl, rfl, _, rfl, ?_⟩
        rw [decide_eq_true (show (0 : Int) < (xs'.length : Int) by omega)]
        refine ⟨_, rfl, _, rfl, _, rfl, p, a', st, xs', os, S', rfl, W'.pl, hsq, h', htg', b3 (by omega), by omega, fun t' st' v' r'' S'' H'' P'' g'' ht'' hs'' hr'' hq'' => ?_⟩
        obtain ⟨W'', s''⟩ := W'.then_ P'' g''
        refine ⟨t', _, rfl, SqT.of (W''.ss _ _ ht''), rfl, _, _, rfl, _, _, rfl, rfl, ?_⟩
        exact ⟨_, st', v', r'', S'', rfl, W'', hs'', hr'', fun os' e => ⟨by have := (hq'' os' e).1; omega, fun z => by omega, fun z => (hq'' os' e).2 (b2 (by omega))⟩⟩
    · rintro σ H' ⟨v5, st, v, r', S', rfl, W', hsq, hrow, hprop⟩
      have hRQ : RowQ K S' v r' := hrow.rowQ fun os e => by have := (hprop os e).1; omega
      obtain ⟨n, d, hkd, hdp, hcl, hdep⟩ := id hsq
      refine ⟨_, rfl, _, rfl, st, v, n, r', rfl, hkd.mono W'.ss, hRQ.mono W'.ss, hrow.notT W'.ss, fun u H2' nu s2' hu => ?_⟩
      have Wa := W'.more s2'
      obtain ⟨z, y, ezy⟩ : ∃ z y, dueV st r' = (z, y) := ⟨_, _, rfl⟩
      rw [ezy] at hu
      refine ⟨_, rfl, _, rfl, st, v, n, r', rfl, hkd.mono Wa.ss, hRQ.mono Wa.ss, fun u2 H3' nu2 s3' hu2 => ?_⟩
      have Wb := Wa.more s3'
      rw [ezy] at hu2
      have hu3 := s3' _ _ hu
      refine ⟨_, rfl, u, _, 0, _, rfl, rfl, SqT.of hu3, atI_nat (j := 0) rfl, _, rfl, u, _, 1, _, rfl, rfl, SqT.of hu3, atI_nat (j := 1) rfl, by show 3 ≤ sizeLine; decide, fun u4 nu4 => ?_⟩
      obtain ⟨S4, Wc, s4, h4⟩ := Wb.new nu4 (.tup [.str z, y, .bl true])
      obtain ⟨⟨dy, hdy, hcy, hpy⟩, hzo, hzh⟩ := duV_data hsq ezy
      have hsh : SeqAt.shaped (.tuple [.str z, dy, .bool true]) = true := by
        show (PyData.canLay0 (.tuple [.str z, dy, .bool true]) && decide (PyData.depth (.tuple [.str z, dy, .bool true]) ≤ 64)) = true
        rw [Bool.and_eq_true]
        refine ⟨by simp [PyData.canLay0, PyData.canLayAll0, hzo, hcy], decide_eq_true ?_⟩
        simp only [PyData.depth, PyData.depthAll]
        omega
      have hdyc := dp_mono (s4.trans Wc.ss) _ hdy
      refine ⟨_, _, .tup (SqT.of (same_upd nu4 _ _ hu2)) (.cons (.str _) (.cons hdyc (.cons (.bl _) .nil))), .tup (SqT.of (Wc.ss _ _ h4)) (.cons (.str _) (.cons hdyc (.cons (.bl _) .nil))), hsh, hsh, _, rfl, ?_⟩
      rw [SeqAt.eqv_refl _ (SeqAt.canLay_of_shaped hsh)]
      have hu5 := same_upd (o := .tup [.str z, y, .bl true]) nu4 _ _ hu3
      refine ⟨_, rfl, u, _, 0, _, rfl, rfl, SqT.of hu5, atI_nat (j := 0) rfl, rfl, _, rfl, ?_⟩
      by_cases hz : z = "hand"
      · subst hz
        rw [decide_eq_true (rfl : V.str "hand" = V.str "hand")]
        obtain ⟨hb1, hd1⟩ := hzh rfl
        obtain ⟨bb, rfl, bb0, bb1⟩ := btw_int hb1
        cases hrow with
        | bad hq => cases hd1
        | @row a' xs' os h' htg' hne =>
        obtain ⟨us, rfl, lus⟩ := dueR_none hd1
        have hst' : Stps S' xs' us := htg'.stps
        have huok := htg'.ok
        rw [List.length_map] at lus
        have lx' : xs'.length = us.length := Paired.length hst'
        have lu0 : 0 < us.length := by
          have := List.length_pos_iff.mpr hne
          rw [List.length_map] at this
          exact this
        -- passed = list(steps)
        have ha4 := s4 _ _ h'
        refine ⟨_, rfl, a', _, rfl, .inl (SqL.of (Wc.ss _ _ ha4)), fun l hl => ?_⟩
        have nlp : l ≠ p := fun z => Wc.pl.has (by rw [← z]; exact hl)
        have n0 : H1 l = none := Wc.gr.bk hl
        have sl4 := Wc.ss.free hl
        have Wd1 := Wc.put (o := .lst xs') n0 sl4 nlp
        have hl5 : upd (upd H3' u4 (.tup [.str "hand", y, .bl true])) l (.lst xs') l = some (.lst xs') := upd_same
        generalize upd (upd H3' u4 (.tup [.str "hand", y, .bl true])) l (.lst xs') = H5 at Wd1 hl5 ⊢
        have hst4 := hst'.mono s4
        have hstH := hst4.mono Wd1.ss
        -- hand = Hand(start, passed)
        refine ⟨_, rfl, _, rfl, fun x dx nx ndx _ => ?_⟩
        have sH : Same H5 (upd (upd H5 dx (.own x)) x (.ins CH dx [])) := fun c o h => by
          rw [upd_ne (ne_of_none h nx), upd_ne (ne_of_none h ndx)]
          exact h
        refine ⟨x, dx, H5, .int bb, .ref l, "int", some (us.map some), rfl, upd_same, sH, nx, kd_int K _ _, .row (.inl hl5) (stps_tgs hstH huok) hne (by rw [List.length_map]; omega), fun z => (by rw [hb1] at z; cases z), fun _ i e => (by rw [hd1] at e; cases e), fun b' a2 xs2 ts2 eb hb2 _ ev hrow2 hst2 er hok2 r H' nr k hx hp => ⟨rfl, ?_⟩⟩
        cases eb
        cases ev
        have exs : xs2 = xs' := by
          rcases hrow2 with h | h
          · rw [hl5] at h
            cases h
            rfl
          · rw [hl5] at h
            cases h
        subst exs
        have ets : ts2 = us := by
          have := Option.some.inj er
          exact ((List.map_inj_right (fun _ _ h => Option.some.inj h)).mp this).symm
        subst ets
        obtain ⟨S6, W6, s6, hA, kS⟩ := Wd1.made nx ndx nr k hx hp hst4
        have hl6 : H' l = some (.lst xs2) := k l _ (ne_of_none hl5 nx) (sH _ _ hl5)
        have sl6 := kS l (by rw [hl5]; exact fun z => by cases z) sl4
        obtain ⟨dxA, fsA, iA⟩ := hA.ins
        -- passed.append(passed[0]); passed.reverse()
        have hx0 : xs2[0]? = some xs2[0] := List.getElem?_eq_getElem (by omega)
        refine ⟨_, rfl, .inl ⟨rfl, _, SqL.of hl6⟩, _, rfl, l, _, 0, _, rfl, rfl, SqL.of hl6, atI_nat (j := 0) hx0, l, _, _, rfl, rfl, hl6, small1000 (by omega), ?_⟩
        refine ⟨_, rfl, .inl ⟨rfl, _, SqL.of upd_same⟩, l, _, rfl, rfl, upd_same, ?_⟩
        have W7 := (W6.put (o := .lst (xs2 ++ [xs2[0]])) n0 sl6 nlp).put (o := .lst (xs2 ++ [xs2[0]]).reverse) n0 sl6 nlp
        generalize upd (upd H' l (.lst (xs2 ++ [xs2[0]]))) l (.lst (xs2 ++ [xs2[0]]).reverse) = H7 at W7 ⊢
        have ha6 := s6 _ _ ha4
        have hst6 := hst4.mono s6
        -- words
        refine ⟨_, rfl, a', rfl, ⟨_, SqL.of (W7.ss _ _ ha6)⟩, fun D1 hD1 => lc_pure (wdV S6) (SqL.of (W7.ss _ _ ha6)) (by omega) (fun _ => rfl) (fun x0 H8 hx0' s8 Q8 q8 => ?_) hD1 (fun H8 s8 h8 => ?_)⟩
        · obtain ⟨t0, _, a0, rfl, ha0⟩ := paired_memL hst6 x0 hx0'
          have e0 : wdV S6 (.ref a0) = some (.str t0.2.1) := by
            unfold wdV
            simp only [ha0, stpV]
          have qq := q8 H8 (Same.refl _)
          rw [e0] at qq
          exact ⟨_, rfl, a0, _, 1, _, rfl, rfl, SqT.of (s8 _ _ (W7.ss _ _ ha0)), atI_nat (j := 1) rfl, qq⟩
        rw [wdV_all hst6] at h8
        have W8 := W7.more s8
        refine ⟨D1, _, rfl, SqL.of h8, by rw [List.length_map]; omega, fun e1 ne1 => ?_⟩
        refine ⟨e1, _, rfl, upd_same, fun e2 ys py ne2 => ?_⟩
        rw [srtD_strs, sortS_perm py, words_any (ts := ts2) (insAll_nodup _) (fun z => insAll_mem z _)]
        obtain ⟨S9, W9, s9, h9⟩ := W8.new ne1 (SetKo P w e1 ((insAll (ts2.map (·.2.1))).map Sum.inr))
        obtain ⟨S10, W10, s10, h10⟩ := W9.new ne2 (.lst ((wordsOf ts2).map V.str))
        have sA : Same S6 S10 := s9.trans s10
        have hA10 := hA.mono sA
        have iA10 := W10.ss _ _ (sA _ _ iA)
        -- hand.start != start
        refine ⟨_, rfl, x, _, _, rfl, iA10, x, bb, ts2, rfl, hA10.mono W10.ss, _, rfl, rfl, _, rfl, ?_⟩
        rw [decide_eq_true (rfl : V.int bb = V.int bb)]
        -- hand.steps != tuple(steps)
        refine ⟨_, rfl, x, _, _, rfl, iA10, x, bb, ts2, rfl, hA10.mono W10.ss, fun r5 xs5 hr5 hs5 => ?_⟩
        refine ⟨_, rfl, a', _, rfl, .inl ⟨SqL.of (W10.ss _ _ (sA _ _ ha6)), fun r6 nr6 => ?_⟩⟩
        obtain ⟨S11, W11, s11, h11⟩ := W10.new nr6 (.tup xs2)
        refine ⟨_, _, .tup (SqT.of (same_upd nr6 _ _ hr5)) (Stps.dpAll (hs5.mono (same_upd nr6))), .tup (SqT.of upd_same) (Stps.dpAll (((hst6.mono sA).mono W10.ss).mono (same_upd nr6))), encTs_shaped huok, encTs_shaped huok, _, rfl, ?_⟩
        rw [SeqAt.eqv_refl _ (SeqAt.canLay_of_shaped (encTs_shaped huok))]
        have hA11 := hA10.mono s11
        have iA11 := W11.ss _ _ ((sA.trans s11) _ _ iA)
        have wok := words_ok huok
        have lts : ts2.length ≤ 1000 := by omega
        -- isinstance(hand.words, list)
        refine ⟨_, rfl, x, _, _, rfl, iA11, x, bb, ts2, rfl, hA11.mono W11.ss, lts, fun p1 H12 np1 s12 hp1 => ?_⟩
        have hk12 := kd_lst K hp1
        refine ⟨_, _, _, _, _, rfl, .ty "list", hk12.1, kit_list hk12.2.1, _, rfl, ?_⟩
        have W12 := W11.more s12
        -- hand.words != words
        refine ⟨_, rfl, x, _, _, rfl, s12 _ _ iA11, x, bb, ts2, rfl, (hA11.mono W11.ss).mono s12, lts, fun p2 H13 np2 s13 hp2 => ?_⟩
        have W13 := W12.more s13
        have h10' := W13.ss _ _ (s11 _ _ h10)
        refine ⟨_, rfl, _, _, .lst (SqL.of hp2) (strs_dp _), .lst (SqL.of h10') (strs_dp _), strs_shaped wok, strs_shaped wok, _, rfl, ?_⟩
        rw [SeqAt.eqv_refl _ (SeqAt.canLay_of_shaped (strs_shaped wok))]
        -- hand.words.append('a')
        have iA13 := W13.ss _ _ ((sA.trans s11) _ _ iA)
        refine ⟨_, rfl, x, _, _, rfl, iA13, x, bb, ts2, rfl, hA11.mono W13.ss, lts, fun p3 H14 np3 s14 hp3 => ?_⟩
        have lw := words_len ts2
        refine ⟨.inl ⟨rfl, _, SqL.of hp3⟩, p3, _, _, rfl, rfl, hp3, small1000 (by rw [List.length_map]; omega), ?_⟩
        have W15 := (W13.more s14).put (o := .lst ((wordsOf ts2).map V.str ++ [.str "a"])) (W13.gr.bk np3) (W13.ss.free np3) (fun z => W13.pl.has (by rw [← z]; exact np3))
        generalize upd H14 p3 (.lst ((wordsOf ts2).map V.str ++ [.str "a"])) = H15 at W15 ⊢
        -- hand.words.clear()
        have iA15 := W15.ss _ _ ((sA.trans s11) _ _ iA)
        refine ⟨_, rfl, x, _, _, rfl, iA15, x, bb, ts2, rfl, hA11.mono W15.ss, lts, fun p4 H16 np4 s16 hp4 => ?_⟩
        refine ⟨.inl ⟨rfl, _, SqL.of hp4⟩, p4, _, rfl, rfl, hp4, ?_⟩
        have W17 := (W15.more s16).put (o := .lst []) (W15.gr.bk np4) (W15.ss.free np4) (fun z => W15.pl.has (by rw [← z]; exact np4))
        generalize upd H16 p4 (.lst []) = H17 at W17 ⊢
        -- return hand.words == words and ..
        have iA17 := W17.ss _ _ ((sA.trans s11) _ _ iA)
        refine ⟨_, rfl, x, _, _, rfl, iA17, x, bb, ts2, rfl, hA11.mono W17.ss, lts, fun p5 H18 np5 s18 hp5 => ?_⟩
        have W18 := W17.more s18
        have h10'' := W18.ss _ _ (s11 _ _ h10)
        refine ⟨_, rfl, _, _, .lst (SqL.of hp5) (strs_dp _), .lst (SqL.of h10'') (strs_dp _), strs_shaped wok, strs_shaped wok, _, rfl, ?_⟩
        rw [SeqAt.eqv_refl _ (SeqAt.canLay_of_shaped (strs_shaped wok))]
        have ha11 := (sA.trans s11) _ _ ha6
        have hst11 := hst6.mono (sA.trans s11)
        refine ⟨_, rfl, _, rfl, a', _, rfl, .inl ⟨SqL.of (W18.ss _ _ ha11), fun r7 nr7 => ?_⟩⟩
        obtain ⟨S19, W19, s19, h19⟩ := W18.new nr7 (.tup xs2)
        refine fun x2 dx2 nx2 ndx2 _ => ?_
        have hst19 := hst11.mono s19
        have sH2 : Same (upd H18 r7 (.tup xs2)) (upd (upd (upd H18 r7 (.tup xs2)) dx2 (.own x2)) x2 (.ins CH dx2 [])) := fun c o h => by
          rw [upd_ne (ne_of_none h nx2), upd_ne (ne_of_none h ndx2)]
          exact h
        refine ⟨x2, dx2, S19, .int bb, .ref r7, "int", some (ts2.map some), rfl, upd_same, W19.ss.trans sH2, W19.ss.free nx2, kd_int K _ _, .row (.inr h19) (stps_tgs hst19 huok) hne (by rw [List.length_map]; omega), fun z => (by rw [hb1] at z; cases z), fun _ i e => (by rw [hd1] at e; cases e), fun b' a2 xs3 ts3 eb hb2 _ ev hrow2 hst2 er hok2 r2 H20 nr2 k2 hx2 hp2' => ⟨rfl, ?_⟩⟩
        cases eb
        cases ev
        have exs : xs3 = xs2 := by
          rcases hrow2 with h | h
          · rw [h19] at h
            cases h
          · rw [h19] at h
            cases h
            rfl
        subst exs
        have ets : ts3 = ts2 := by
          have := Option.some.inj er
          exact ((List.map_inj_right (fun _ _ h => Option.some.inj h)).mp this).symm
        subst ets
        obtain ⟨S21, W21, s21, hB, _⟩ := W19.made nx2 ndx2 nr2 k2 hx2 hp2' hst19
        obtain ⟨dxB, fsB, iB⟩ := hB.ins
        refine ⟨x2, _, _, rfl, W21.ss _ _ iB, x2, bb, ts3, rfl, hB.mono W21.ss, fun r8 xs8 hr8 hs8 => ?_⟩
        refine ⟨_, rfl, a', _, rfl, .inl ⟨SqL.of (W21.ss _ _ ((s19.trans s21) _ _ ha11)), fun r9 nr9 => ?_⟩⟩
        refine ⟨_, _, .tup (SqT.of (same_upd nr9 _ _ hr8)) (Stps.dpAll (hs8.mono (same_upd nr9))), .tup (SqT.of upd_same) (Stps.dpAll (((hst19.mono s21).mono W21.ss).mono (same_upd nr9))), encTs_shaped huok, encTs_shaped huok, ?_⟩
        rw [SeqAt.eqv_refl _ (SeqAt.canLay_of_shaped (encTs_shaped huok))]
        exact q _
      · rw [decide_eq_false (fun e => hz (V.str.inj e))]
        exact q _
end
end WW

set_option Elab.async false
set_option linter.all false
set_option maxRecDepth 100000
set_option pp.maxSteps 150
set_option maxHeartbeats 4000000
namespace WW
open PySem PySem.Spec PyProof.Rows L2
abbrev sBadStart_init : Stmt := inClass (topS 10) 0
abbrev sBadSteps_init : Stmt := inClass (topS 11) 0
theorem all_mk {l : PySem.W.OpenLaw} {w : World} {K : PySem.W.Frag} {h : Heap} {mg : Str → Option Value} {fa : Addr} (X : K.In h) (G : h.Ns mainGlobals mg) (hfa : mg "law" = some (.ref fa))
    {tsm : Tok}
    {tms : Tok}
    {tmo : Tok}
    {CW CT : Addr}
    {Cxb fxb cdxb ccxb : Addr} {nmxb qxb : Str} {Nxb : Addr} {bsxb : List Value} {snxb : List Str} {sbxb : List Value} {abxb : Bool} {coxb : Option Bool} {ddxb : Option Addr} {m0xb m1xb m2xb m3xb m5xb : Option Value}
    {ocxb dcxb pmxb ctxb kaxb laxb : Value} {odxb kbxb lbxb : Option Addr} {slxb kcxb lcxb : Array (Option Value)} {vsxb : Array Value} {fixb : Str} {tfxb : Tok}
    {Cxs fxs cdxs ccxs : Addr} {nmxs qxs : Str} {Nxs : Addr} {bsxs : List Value} {snxs : List Str} {sbxs : List Value} {abxs : Bool} {coxs : Option Bool} {ddxs : Option Addr} {m0xs m1xs m2xs m3xs m5xs : Option Value}
    {ocxs dcxs pmxs ctxs kaxs laxs : Value} {odxs kbxs lbxs : Option Addr} {slxs kcxs lcxs : Array (Option Value)} {vsxs : Array Value} {fixs : Str} {tfxs : Tok}
    {odii anii : Option Addr} {slii : Array (Option Value)} {ocii kVii dcii pmii cdii ctii : Value} {fii : Addr}
    {odib anib : Option Addr} {slib : Array (Option Value)} {ocib kVib dcib pmib cdib ctib : Value} {fib : Addr}
    {odis anis : Option Addr} {slis : Array (Option Value)} {ocis kVis dcis pmis cdis ctis : Value} {fis : Addr}
    {odin anin : Option Addr} {slin : Array (Option Value)} {ocin kVin dcin pmin cdin ctin : Value} {fin : Addr}
    {odir anir : Option Addr} {slir : Array (Option Value)} {ocir kVir dcir pmir cdir ctir : Value} {fir : Addr}
    {odip anip : Option Addr} {slip : Array (Option Value)} {ocip kVip dcip pmip cdip ctip : Value} {fip : Addr}
    {odgs angs : Option Addr} {slgs : Array (Option Value)} {ocgs kVgs dcgs pmgs cdgs ctgs : Value} {fgs : Addr}
    {CH : Addr}
    {odHi anHi : Option Addr} {slHi : Array (Option Value)} {ocHi kVHi dcHi pmHi cdHi ctHi : Value} {fHi : Addr}
    {pHb : Addr} {rHb : List Value}
    {odHb anHb : Option Addr} {slHb : Array (Option Value)} {ocHb kVHb dcHb pmHb cdHb ctHb : Value} {fHb : Addr}
    {pHs : Addr} {rHs : List Value}
    {odHs anHs : Option Addr} {slHs : Array (Option Value)} {ocHs kVHs dcHs pmHs cdHs ctHs : Value} {fHs : Addr}
    {pHw : Addr} {rHw : List Value}
    {odHw anHw : Option Addr} {slHw : Array (Option Value)} {ocHw kVHw dcHw pmHw cdHw ctHw : Value} {fHw : Addr}
    {odlp anlp : Option Addr} {sllp : Array (Option Value)} {oclp kVlp dclp pmlp cdlp ctlp : Value} {flp : Addr}
    {odld anld : Option Addr} {slld : Array (Option Value)} {ocld kVld dcld pmld cdld ctld : Value} {fld : Addr}
    {odlk anlk : Option Addr} {sllk : Array (Option Value)} {oclk kVlk dclk pmlk cdlk ctlk : Value} {flk : Addr}
    {odln anln : Option Addr} {slln : Array (Option Value)} {ocln kVln dcln pmln cdln ctln : Value} {fln : Addr}
    {odlN anlN : Option Addr} {sllN : Array (Option Value)} {oclN kVlN dclN pmlN cdlN ctlN : Value} {flN : Addr}
    {odlw anlw : Option Addr} {sllw : Array (Option Value)} {oclw kVlw dclw pmlw cdlw ctlw : Value} {flw : Addr}
    {odls anls : Option Addr} {slls : Array (Option Value)} {ocls kVls dcls pmls cdls ctls : Value} {fls : Addr}
    {odlm anlm : Option Addr} {sllm : Array (Option Value)} {oclm kVlm dclm pmlm cdlm ctlm : Value} {flm : Addr}
    {odlq anlq : Option Addr} {sllq : Array (Option Value)} {oclq kVlq dclq pmlq cdlq ctlq : Value} {flq : Addr}
    {odlu anlu : Option Addr} {sllu : Array (Option Value)} {oclu kVlu dclu pmlu cdlu ctlu : Value} {flu : Addr}
    {odlt anlt : Option Addr} {sllt : Array (Option Value)} {oclt kVlt dclt pmlt cdlt ctlt : Value} {flt : Addr}
    {odlr anlr : Option Addr} {sllr : Array (Option Value)} {oclr kVlr dclr pmlr cdlr ctlr : Value} {flr : Addr}
    {odlo anlo : Option Addr} {sllo : Array (Option Value)} {oclo kVlo dclo pmlo cdlo ctlo : Value} {flo : Addr}
    {odlx anlx : Option Addr} {sllx : Array (Option Value)} {oclx kVlx dclx pmlx cdlx ctlx : Value} {flx : Addr}
    {odlaw anlaw : Option Addr} {sllaw : Array (Option Value)} {oclaw kVlaw dclaw pmlaw cdlaw ctlaw : Value} {flaw : Addr}
    (zabs : PySem.W.nsIn K mainGlobals "abs" = some none)
    (zint : PySem.W.nsIn K mainGlobals "int" = some none)
    (zlen : PySem.W.nsIn K mainGlobals "len" = some none)
    (zmax : PySem.W.nsIn K mainGlobals "max" = some none)
    (zrange : PySem.W.nsIn K mainGlobals "range" = some none)
    (ztuple : PySem.W.nsIn K mainGlobals "tuple" = some none)
    (zlist : PySem.W.nsIn K mainGlobals "list" = some none)
    (zstr : PySem.W.nsIn K mainGlobals "str" = some none)
    (zbool : PySem.W.nsIn K mainGlobals "bool" = some none)
    (zisinstance : PySem.W.nsIn K mainGlobals "isinstance" = some none)
    (zall : PySem.W.nsIn K mainGlobals "all" = some none)
    (zsorted : PySem.W.nsIn K mainGlobals "sorted" = some none)
    (zenumerate : PySem.W.nsIn K mainGlobals "enumerate" = some none)
    (zset : PySem.W.nsIn K mainGlobals "set" = some none)
    (zsuper : PySem.W.nsIn K mainGlobals "super" = some none)
    (zValueError : PySem.W.nsIn K mainGlobals "ValueError" = some none)
    (vsm : PySem.W.nsIn K mainGlobals "SMALL" = some (some (.str smallS tsm)))
    (vms : PySem.W.nsIn K mainGlobals "MOST_STEPS" = some (some (.int 20 tms)))
    (vmo : PySem.W.nsIn K mainGlobals "MOST_FROM_ONE" = some (some (.int 3 tmo)))
    (ntop : (l.prog.main.scope.names.lookup ("super" : Str)).isSome = false)
    (opq : PySem.W.nsIn K cStatics "thirdparty.any" = some none)
    (jb : PySem.W.specialIn K (.builtin "object.__class__") "__get__" = some (some (.builtin "getset_descriptor.__get__")))
    (jc : PySem.W.takesIn K (.builtin "object.__class__") = some true)
    (aCW : PySem.W.nsIn K mainGlobals "WorksError" = some (some (.ref CW)))
    (aCT : PySem.W.nsIn K mainGlobals "TooMany" = some (some (.ref CT)))
    (aCxb : PySem.W.nsIn K mainGlobals "BadStart" = some (some (.ref Cxb)))
    (xLxb : K.lookup Cxb = some (excClassObj nmxb qxb Cxb Nxb bsxb [.ref CW, .type "ValueError", .type "Exception", .type "BaseException", .type "object"] true snxb sbxb abxb coxb ddxb m0xb m1xb m2xb m3xb m5xb "ValueError.__new__"))
    (saxb : PySem.W.findIn K (.ref Cxb) "__setattr__" = some (some (.builtin "object.__setattr__")))
    (eCxb : PySem.W.subIn K (.ref Cxb) (.type "BaseException") = some true)
    (tCxb : PySem.W.typeIn K (.ref Cxb) = some (.type "type"))
    (kCxb : PySem.W.keepIn K (.ref Cxb) = true)
    (iCxb : PySem.W.findIn K (.ref Cxb) "__init__" = some (some (.ref fxb)))
    (tIxb : PySem.W.typeIn K (.ref fxb) = some (.type "function"))
    (lkxb : K.lookup fxb = some ⟨ocxb, odxb, .func (PySem.W.fnX "__init__" "BadStart.__init__" (defArgs sBadStart_init) (defBody sBadStart_init) (defScope sBadStart_init) [("__class__", ccxb)] .none .none dcxb pmxb none (.ref cdxb) ctxb), slxb⟩)
    (hcxb : PySem.W.codeIn K (.ref cdxb) "BadStart.__init__" = true)
    (coxbx : K.lookup cdxb = some ⟨kaxb, kbxb, .fields vsxb, kcxb⟩)
    (v2xb : vsxb[2]? = some (.str fixb tfxb))
    (flxb : ((l.prog.main.file : Str) == fixb) = true)
    (cexb : K.lookup ccxb = some ⟨laxb, lbxb, .cell (some (.ref Cxb)), lcxb⟩)
    (mrxb : PySem.W.mroIn K Cxb (.ref Cxb) = some true)
    (suxb : PySem.W.ks_superIn K Cxb Cxb "__init__" = some (some (.builtin "ValueError.__init__")))
    (bvxb : PySem.W.subIn K (.ref Cxb) (.type "ValueError") = some true)
    (nfxb : PySem.W.findIn K (.ref Cxb) "value" = some none)
    (aCxs : PySem.W.nsIn K mainGlobals "BadSteps" = some (some (.ref Cxs)))
    (xLxs : K.lookup Cxs = some (excClassObj nmxs qxs Cxs Nxs bsxs [.ref CW, .type "ValueError", .type "Exception", .type "BaseException", .type "object"] true snxs sbxs abxs coxs ddxs m0xs m1xs m2xs m3xs m5xs "ValueError.__new__"))
    (saxs : PySem.W.findIn K (.ref Cxs) "__setattr__" = some (some (.builtin "object.__setattr__")))
    (eCxs : PySem.W.subIn K (.ref Cxs) (.type "BaseException") = some true)
    (tCxs : PySem.W.typeIn K (.ref Cxs) = some (.type "type"))
    (kCxs : PySem.W.keepIn K (.ref Cxs) = true)
    (iCxs : PySem.W.findIn K (.ref Cxs) "__init__" = some (some (.ref fxs)))
    (tIxs : PySem.W.typeIn K (.ref fxs) = some (.type "function"))
    (lkxs : K.lookup fxs = some ⟨ocxs, odxs, .func (PySem.W.fnX "__init__" "BadSteps.__init__" (defArgs sBadSteps_init) (defBody sBadSteps_init) (defScope sBadSteps_init) [("__class__", ccxs)] .none .none dcxs pmxs none (.ref cdxs) ctxs), slxs⟩)
    (hcxs : PySem.W.codeIn K (.ref cdxs) "BadSteps.__init__" = true)
    (coxsx : K.lookup cdxs = some ⟨kaxs, kbxs, .fields vsxs, kcxs⟩)
    (v2xs : vsxs[2]? = some (.str fixs tfxs))
    (flxs : ((l.prog.main.file : Str) == fixs) = true)
    (cexs : K.lookup ccxs = some ⟨laxs, lbxs, .cell (some (.ref Cxs)), lcxs⟩)
    (mrxs : PySem.W.mroIn K Cxs (.ref Cxs) = some true)
    (suxs : PySem.W.ks_superIn K Cxs Cxs "__init__" = some (some (.builtin "ValueError.__init__")))
    (bvxs : PySem.W.subIn K (.ref Cxs) (.type "ValueError") = some true)
    (nfxs : PySem.W.findIn K (.ref Cxs) "at" = some none)
    (gaxb : PySem.W.findIn K (.ref Cxb) "__getattribute__" = some (some (.builtin "BaseException.__getattribute__")))
    (ggxb : PySem.W.findIn K (.ref Cxb) "__getattr__" = some none)
    (hdxb : PySem.W.hasDictIn K Cxb = true)
    (clxb : PySem.W.findIn K (.ref Cxb) "__class__" = some (some (.builtin "object.__class__")))
    (moxb : PySem.W.mroIn K Cxb (.type "object") = some true)
    (gaxs : PySem.W.findIn K (.ref Cxs) "__getattribute__" = some (some (.builtin "BaseException.__getattribute__")))
    (ggxs : PySem.W.findIn K (.ref Cxs) "__getattr__" = some none)
    (hdxs : PySem.W.hasDictIn K Cxs = true)
    (clxs : PySem.W.findIn K (.ref Cxs) "__class__" = some (some (.builtin "object.__class__")))
    (moxs : PySem.W.mroIn K Cxs (.type "object") = some true)
    (k1 : PySem.W.kitOne K (.ref Cxb) (.ref CW) = some true)
    (k2 : PySem.W.kitOne K (.ref Cxb) (.ref Cxs) = some false)
    (k3 : PySem.W.kitOne K (.ref Cxs) (.ref CW) = some true)
    (k4 : PySem.W.kitOne K (.ref Cxs) (.type "ValueError") = some true)
    (k5 : PySem.W.kitOne K (.ref Cxs) (.ref CT) = some false)
    (s1 : PySem.W.subIn K (.ref Cxb) (.ref Cxb) = some true)
    (s2 : PySem.W.subIn K (.ref Cxs) (.ref Cxb) = some false)
    (s3 : PySem.W.subIn K (.ref Cxs) (.ref Cxs) = some true)
    (aii : PySem.W.nsIn K mainGlobals "is_integer" = some (some (.ref fii)))
    (lii : K.lookup fii = some ⟨ocii, odii, .func (PySem.W.fnOf "is_integer" "is_integer" (defArgs sIs_integer) (defBody sIs_integer) (defScope sIs_integer) .none kVii dcii pmii anii cdii ctii), slii⟩)
    (cii : PySem.W.codeIn K cdii "is_integer" = true)
    (kii : PySem.W.keepIn K (.ref fii) = true)
    (aib : PySem.W.nsIn K mainGlobals "is_between" = some (some (.ref fib)))
    (lib : K.lookup fib = some ⟨ocib, odib, .func (PySem.W.fnOf "is_between" "is_between" (defArgs sIs_between) (defBody sIs_between) (defScope sIs_between) .none kVib dcib pmib anib cdib ctib), slib⟩)
    (cib : PySem.W.codeIn K cdib "is_between" = true)
    (kib : PySem.W.keepIn K (.ref fib) = true)
    (ais : PySem.W.nsIn K mainGlobals "is_state" = some (some (.ref fis)))
    (lis : K.lookup fis = some ⟨ocis, odis, .func (PySem.W.fnOf "is_state" "is_state" (defArgs sIs_state) (defBody sIs_state) (defScope sIs_state) .none kVis dcis pmis anis cdis ctis), slis⟩)
    (cis : PySem.W.codeIn K cdis "is_state" = true)
    (kis : PySem.W.keepIn K (.ref fis) = true)
    (ain : PySem.W.nsIn K mainGlobals "is_name" = some (some (.ref fin)))
    (lin : K.lookup fin = some ⟨ocin, odin, .func (PySem.W.fnOf "is_name" "is_name" (defArgs sIs_name) (defBody sIs_name) (defScope sIs_name) .none kVin dcin pmin anin cdin ctin), slin⟩)
    (cin : PySem.W.codeIn K cdin "is_name" = true)
    (kin : PySem.W.keepIn K (.ref fin) = true)
    (air : PySem.W.nsIn K mainGlobals "is_row" = some (some (.ref fir)))
    (lir : K.lookup fir = some ⟨ocir, odir, .func (PySem.W.fnOf "is_row" "is_row" (defArgs sIs_row) (defBody sIs_row) (defScope sIs_row) .none kVir dcir pmir anir cdir ctir), slir⟩)
    (cir : PySem.W.codeIn K cdir "is_row" = true)
    (kir : PySem.W.keepIn K (.ref fir) = true)
    (aip : PySem.W.nsIn K mainGlobals "is_step" = some (some (.ref fip)))
    (lip : K.lookup fip = some ⟨ocip, odip, .func (PySem.W.fnOf "is_step" "is_step" (defArgs sIs_step) (defBody sIs_step) (defScope sIs_step) .none kVip dcip pmip anip cdip ctip), slip⟩)
    (cip : PySem.W.codeIn K cdip "is_step" = true)
    (kip : PySem.W.keepIn K (.ref fip) = true)
    (ags : PySem.W.nsIn K mainGlobals "good_steps" = some (some (.ref fgs)))
    (lgs : K.lookup fgs = some ⟨ocgs, odgs, .func (PySem.W.fnOf "good_steps" "good_steps" (defArgs sGood_steps) (defBody sGood_steps) (defScope sGood_steps) .none kVgs dcgs pmgs angs cdgs ctgs), slgs⟩)
    (cgs : PySem.W.codeIn K cdgs "good_steps" = true)
    (kgs : PySem.W.keepIn K (.ref fgs) = true)
    (aCH : PySem.W.nsIn K mainGlobals "Hand" = some (some (.ref CH)))
    (pgH : PySem.W.plainGet K CH Str.empty = true)
    (hdH : PySem.W.hasDictIn K CH = true)
    (poH : PySem.W.plainOver K CH = true)
    (saH : PySem.W.findIn K (.ref CH) "__setattr__" = some (some (.builtin "object.__setattr__")))
    (nHB : PySem.W.findIn K (.ref CH) "begin" = some none)
    (nHR : PySem.W.findIn K (.ref CH) "row" = some none)
    (mkH : PySem.W.makesIn K CH = true)
    (aiH : PySem.W.findIn K (.ref CH) "__init__" = some (some (.ref fHi)))
    (iiH : PySem.W.isFn K (.ref fHi) = true)
    (kcH : PySem.W.keepIn K (.ref CH) = true)
    (lHi : K.lookup fHi = some ⟨ocHi, odHi, .func (PySem.W.fnOf "__init__" "Hand.__init__" (defArgs sHand_init) (defBody sHand_init) (defScope sHand_init) .none kVHi dcHi pmHi anHi cdHi ctHi), slHi⟩)
    (cHi : PySem.W.codeIn K cdHi "Hand.__init__" = true)
    (kHi : PySem.W.keepIn K (.ref fHi) = true)
    (paHb : PySem.W.findIn K (.ref CH) "start" = some (some (.ref pHb)))
    (pbHb : PySem.W.specialIn K (.ref pHb) "__get__" = some (some (.builtin "property.__get__")))
    (pcHb : PySem.W.takesIn K (.ref pHb) = some true)
    (pdHb : PySem.W.recIn K pHb "property" = some (.ref fHb :: rHb))
    (lHb : K.lookup fHb = some ⟨ocHb, odHb, .func (PySem.W.fnOf "start" "Hand.start" (defArgs sHand_start) (defBody sHand_start) (defScope sHand_start) .none kVHb dcHb pmHb anHb cdHb ctHb), slHb⟩)
    (cHb : PySem.W.codeIn K cdHb "Hand.start" = true)
    (kHb : PySem.W.keepIn K (.ref fHb) = true)
    (paHs : PySem.W.findIn K (.ref CH) "steps" = some (some (.ref pHs)))
    (pbHs : PySem.W.specialIn K (.ref pHs) "__get__" = some (some (.builtin "property.__get__")))
    (pcHs : PySem.W.takesIn K (.ref pHs) = some true)
    (pdHs : PySem.W.recIn K pHs "property" = some (.ref fHs :: rHs))
    (lHs : K.lookup fHs = some ⟨ocHs, odHs, .func (PySem.W.fnOf "steps" "Hand.steps" (defArgs sHand_steps) (defBody sHand_steps) (defScope sHand_steps) .none kVHs dcHs pmHs anHs cdHs ctHs), slHs⟩)
    (cHs : PySem.W.codeIn K cdHs "Hand.steps" = true)
    (kHs : PySem.W.keepIn K (.ref fHs) = true)
    (paHw : PySem.W.findIn K (.ref CH) "words" = some (some (.ref pHw)))
    (pbHw : PySem.W.specialIn K (.ref pHw) "__get__" = some (some (.builtin "property.__get__")))
    (pcHw : PySem.W.takesIn K (.ref pHw) = some true)
    (pdHw : PySem.W.recIn K pHw "property" = some (.ref fHw :: rHw))
    (lHw : K.lookup fHw = some ⟨ocHw, odHw, .func (PySem.W.fnOf "words" "Hand.words" (defArgs sHand_words) (defBody sHand_words) (defScope sHand_words) .none kVHw dcHw pmHw anHw cdHw ctHw), slHw⟩)
    (cHw : PySem.W.codeIn K cdHw "Hand.words" = true)
    (kHw : PySem.W.keepIn K (.ref fHw) = true)
    (alp : PySem.W.nsIn K mainGlobals "_law_pool" = some (some (.ref flp)))
    (llp : K.lookup flp = some ⟨oclp, odlp, .func (PySem.W.fnOf "_law_pool" "_law_pool" (defArgs sLpool) (defBody sLpool) (defScope sLpool) .none kVlp dclp pmlp anlp cdlp ctlp), sllp⟩)
    (clp : PySem.W.codeIn K cdlp "_law_pool" = true)
    (klp : PySem.W.keepIn K (.ref flp) = true)
    (ald : PySem.W.nsIn K mainGlobals "_law_draw" = some (some (.ref fld)))
    (lld : K.lookup fld = some ⟨ocld, odld, .func (PySem.W.fnOf "_law_draw" "_law_draw" (defArgs sLdraw) (defBody sLdraw) (defScope sLdraw) .none kVld dcld pmld anld cdld ctld), slld⟩)
    (cld : PySem.W.codeIn K cdld "_law_draw" = true)
    (kld : PySem.W.keepIn K (.ref fld) = true)
    (alk : PySem.W.nsIn K mainGlobals "_law_pick" = some (some (.ref flk)))
    (llk : K.lookup flk = some ⟨oclk, odlk, .func (PySem.W.fnOf "_law_pick" "_law_pick" (defArgs sLpick) (defBody sLpick) (defScope sLpick) .none kVlk dclk pmlk anlk cdlk ctlk), sllk⟩)
    (clk : PySem.W.codeIn K cdlk "_law_pick" = true)
    (klk : PySem.W.keepIn K (.ref flk) = true)
    (aln : PySem.W.nsIn K mainGlobals "_law_name" = some (some (.ref fln)))
    (lln : K.lookup fln = some ⟨ocln, odln, .func (PySem.W.fnOf "_law_name" "_law_name" (defArgs sLname) (defBody sLname) (defScope sLname) .none kVln dcln pmln anln cdln ctln), slln⟩)
    (cln : PySem.W.codeIn K cdln "_law_name" = true)
    (kln : PySem.W.keepIn K (.ref fln) = true)
    (alN : PySem.W.nsIn K mainGlobals "_law_names" = some (some (.ref flN)))
    (llN : K.lookup flN = some ⟨oclN, odlN, .func (PySem.W.fnOf "_law_names" "_law_names" (defArgs sLnames) (defBody sLnames) (defScope sLnames) .none kVlN dclN pmlN anlN cdlN ctlN), sllN⟩)
    (clN : PySem.W.codeIn K cdlN "_law_names" = true)
    (klN : PySem.W.keepIn K (.ref flN) = true)
    (alw : PySem.W.nsIn K mainGlobals "_law_whole" = some (some (.ref flw)))
    (llw : K.lookup flw = some ⟨oclw, odlw, .func (PySem.W.fnOf "_law_whole" "_law_whole" (defArgs sLwhole) (defBody sLwhole) (defScope sLwhole) .none kVlw dclw pmlw anlw cdlw ctlw), sllw⟩)
    (clw : PySem.W.codeIn K cdlw "_law_whole" = true)
    (klw : PySem.W.keepIn K (.ref flw) = true)
    (als : PySem.W.nsIn K mainGlobals "_law_is_state" = some (some (.ref fls)))
    (lls : K.lookup fls = some ⟨ocls, odls, .func (PySem.W.fnOf "_law_is_state" "_law_is_state" (defArgs sLis_state) (defBody sLis_state) (defScope sLis_state) .none kVls dcls pmls anls cdls ctls), slls⟩)
    (cls : PySem.W.codeIn K cdls "_law_is_state" = true)
    (kls : PySem.W.keepIn K (.ref fls) = true)
    (alm : PySem.W.nsIn K mainGlobals "_law_is_name" = some (some (.ref flm)))
    (llm : K.lookup flm = some ⟨oclm, odlm, .func (PySem.W.fnOf "_law_is_name" "_law_is_name" (defArgs sLis_name) (defBody sLis_name) (defScope sLis_name) .none kVlm dclm pmlm anlm cdlm ctlm), sllm⟩)
    (clm : PySem.W.codeIn K cdlm "_law_is_name" = true)
    (klm : PySem.W.keepIn K (.ref flm) = true)
    (alq : PySem.W.nsIn K mainGlobals "_law_is_step" = some (some (.ref flq)))
    (llq : K.lookup flq = some ⟨oclq, odlq, .func (PySem.W.fnOf "_law_is_step" "_law_is_step" (defArgs sLis_step) (defBody sLis_step) (defScope sLis_step) .none kVlq dclq pmlq anlq cdlq ctlq), sllq⟩)
    (clq : PySem.W.codeIn K cdlq "_law_is_step" = true)
    (klq : PySem.W.keepIn K (.ref flq) = true)
    (alu : PySem.W.nsIn K mainGlobals "_law_due" = some (some (.ref flu)))
    (llu : K.lookup flu = some ⟨oclu, odlu, .func (PySem.W.fnOf "_law_due" "_law_due" (defArgs sLdue) (defBody sLdue) (defScope sLdue) .none kVlu dclu pmlu anlu cdlu ctlu), sllu⟩)
    (clu : PySem.W.codeIn K cdlu "_law_due" = true)
    (klu : PySem.W.keepIn K (.ref flu) = true)
    (alt : PySem.W.nsIn K mainGlobals "_law_told" = some (some (.ref flt)))
    (llt : K.lookup flt = some ⟨oclt, odlt, .func (PySem.W.fnOf "_law_told" "_law_told" (defArgs sLtold) (defBody sLtold) (defScope sLtold) .none kVlt dclt pmlt anlt cdlt ctlt), sllt⟩)
    (clt : PySem.W.codeIn K cdlt "_law_told" = true)
    (klt : PySem.W.keepIn K (.ref flt) = true)
    (alr : PySem.W.nsIn K mainGlobals "_law_row" = some (some (.ref flr)))
    (llr : K.lookup flr = some ⟨oclr, odlr, .func (PySem.W.fnOf "_law_row" "_law_row" (defArgs sLrow) (defBody sLrow) (defScope sLrow) .none kVlr dclr pmlr anlr cdlr ctlr), sllr⟩)
    (clr : PySem.W.codeIn K cdlr "_law_row" = true)
    (klr : PySem.W.keepIn K (.ref flr) = true)
    (alo : PySem.W.nsIn K mainGlobals "_law_odd_step" = some (some (.ref flo)))
    (llo : K.lookup flo = some ⟨oclo, odlo, .func (PySem.W.fnOf "_law_odd_step" "_law_odd_step" (defArgs sLodd_step) (defBody sLodd_step) (defScope sLodd_step) .none kVlo dclo pmlo anlo cdlo ctlo), sllo⟩)
    (clo : PySem.W.codeIn K cdlo "_law_odd_step" = true)
    (klo : PySem.W.keepIn K (.ref flo) = true)
    (alx : PySem.W.nsIn K mainGlobals "_law_spoilt" = some (some (.ref flx)))
    (llx : K.lookup flx = some ⟨oclx, odlx, .func (PySem.W.fnOf "_law_spoilt" "_law_spoilt" (defArgs sLspoilt) (defBody sLspoilt) (defScope sLspoilt) .none kVlx dclx pmlx anlx cdlx ctlx), sllx⟩)
    (clx : PySem.W.codeIn K cdlx "_law_spoilt" = true)
    (klx : PySem.W.keepIn K (.ref flx) = true)
    (alaw : PySem.W.nsIn K mainGlobals "law" = some (some (.ref flaw)))
    (llaw : K.lookup flaw = some ⟨oclaw, odlaw, .func (PySem.W.fnOf "law" "law" (defArgs sLaw) (defBody sLaw) (defScope sLaw) .none kVlaw dclaw pmlaw anlaw cdlaw ctlaw), sllaw⟩)
    (claw : PySem.W.codeIn K cdlaw "law" = true)
    (klaw : PySem.W.keepIn K (.ref flaw) = true) :
    ∃ fd : FuncData, (∀ (s : Shared) (v : Value), BindsTo s fd ⟨[v], []⟩ [("_law_script", v)]) ∧ ∀ base : Heap, K.In base → base.Ns mainGlobals mg → FnOk l.prog w K mg base CX0 9 fa fd ["_law_script"] (spLaw K) := by
  have e := hfa.symm.trans (PySem.W.mg_of X G alaw)
  cases e
  have T : Bl mg := ⟨PySem.W.mg_none_of X G zabs, PySem.W.mg_none_of X G zint, PySem.W.mg_none_of X G zlen, PySem.W.mg_none_of X G zmax, PySem.W.mg_none_of X G zrange, PySem.W.mg_none_of X G ztuple, PySem.W.mg_none_of X G zlist, PySem.W.mg_none_of X G zstr, PySem.W.mg_none_of X G zbool, PySem.W.mg_none_of X G zisinstance, PySem.W.mg_none_of X G zall, PySem.W.mg_none_of X G zsorted, PySem.W.mg_none_of X G zenumerate⟩
  have Vsm := PySem.W.mg_of X G vsm
  have Vms := PySem.W.mg_of X G vms
  have Vmo := PySem.W.mg_of X G vmo
  have hclxb : ∃ cd, PySem.W.clsIn K Cxb = some cd := ⟨_, by unfold PySem.W.clsIn; rw [xLxb]⟩
  have STxb : SupTxt l.prog K mg fxb cdxb ccxb Cxb := ⟨⟨_, _, _, _, _, lkxb, rfl, rfl⟩, ⟨_, _, _, _, _, _, coxbx, v2xb, flxb⟩, ⟨_, _, _, cexb⟩, hclxb, PySem.W.mg_none_of X G zsuper, ntop, opq⟩
  have OXxb : OexC K Cxb := ⟨⟨_, _, _, _, _, _, _, _, _, _, _, _, _, _, _, xLxb, rfl⟩, saxb, eCxb, tCxb, kCxb⟩
  have Xxb : ExcT l.prog w K mg "BadStart" Cxb fxb "value" _ := ⟨OXxb, PySem.W.mg_of X G aCxb, iCxb, tIxb, Binds.all fun us hl => (match us, hl with | [_, _], _ => rfl), fun base => ok_exc lkxb hcxb STxb OXxb mrxb suxb bvxb nfxb (NdefX.nscope_by (by decide +kernel)) rfl ⟨_, _, _, _, _, _, _, _, _, _, rfl, fun _ => ⟨_, rfl⟩⟩ (by decide) (by decide)⟩
  have hclxs : ∃ cd, PySem.W.clsIn K Cxs = some cd := ⟨_, by unfold PySem.W.clsIn; rw [xLxs]⟩
  have STxs : SupTxt l.prog K mg fxs cdxs ccxs Cxs := ⟨⟨_, _, _, _, _, lkxs, rfl, rfl⟩, ⟨_, _, _, _, _, _, coxsx, v2xs, flxs⟩, ⟨_, _, _, cexs⟩, hclxs, PySem.W.mg_none_of X G zsuper, ntop, opq⟩
  have OXxs : OexC K Cxs := ⟨⟨_, _, _, _, _, _, _, _, _, _, _, _, _, _, _, xLxs, rfl⟩, saxs, eCxs, tCxs, kCxs⟩
  have Xxs : ExcT l.prog w K mg "BadSteps" Cxs fxs "at" _ := ⟨OXxs, PySem.W.mg_of X G aCxs, iCxs, tIxs, Binds.all fun us hl => (match us, hl with | [_, _], _ => rfl), fun base => ok_exc lkxs hcxs STxs OXxs mrxs suxs bvxs nfxs (NdefX.nscope_by (by decide +kernel)) rfl ⟨_, _, _, _, _, _, _, _, _, _, rfl, fun _ => ⟨_, rfl⟩⟩ (by decide) (by decide)⟩
  have XFxb : XfC K Cxb := ⟨gaxb, ggxb, eCxb, hdxb⟩
  have XCxb : ExcC K Cxb := ⟨gaxb, ggxb, eCxb, hdxb, clxb, jb, jc, moxb⟩
  have XFxs : XfC K Cxs := ⟨gaxs, ggxs, eCxs, hdxs⟩
  have XCxs : ExcC K Cxs := ⟨gaxs, ggxs, eCxs, hdxs, clxs, jb, jc, moxs⟩
  have TO : Told K mg Cxb Cxs CW CT := ⟨XFxb, XFxs, XCxb, XCxs, nfxb, nfxs, PySem.W.mg_of X G aCW, PySem.W.mg_of X G aCT, PySem.W.mg_none_of X G zValueError, k1, k2, k3, k4, k5, PySem.W.exm_ref eCxb hdxb tCxb s1, PySem.W.exm_ref eCxb hdxb tCxb s2, PySem.W.exm_ref eCxs hdxs tCxs s3⟩
  have Fii := fun_mk (st := sIs_integer) lii cii kii
  have bii := Fii.binds (ps := ["thing"]) fun _ _ _ _ _ _ us hl => match us, hl with | [_], _ => rfl
  have Dii : Df K mg "is_integer" sIs_integer ["thing"] fii _ := ⟨Fii, PySem.W.mg_of X G aii, bii⟩
  have Fib := fun_mk (st := sIs_between) lib cib kib
  have bib := Fib.binds (ps := ["thing", "low", "high"]) fun _ _ _ _ _ _ us hl => match us, hl with | [_, _, _], _ => rfl
  have Dib : Df K mg "is_between" sIs_between ["thing", "low", "high"] fib _ := ⟨Fib, PySem.W.mg_of X G aib, bib⟩
  have Fis := fun_mk (st := sIs_state) lis cis kis
  have bis := Fis.binds (ps := ["thing"]) fun _ _ _ _ _ _ us hl => match us, hl with | [_], _ => rfl
  have Dis : Df K mg "is_state" sIs_state ["thing"] fis _ := ⟨Fis, PySem.W.mg_of X G ais, bis⟩
  have Fin := fun_mk (st := sIs_name) lin cin kin
  have bin := Fin.binds (ps := ["thing"]) fun _ _ _ _ _ _ us hl => match us, hl with | [_], _ => rfl
  have Din : Df K mg "is_name" sIs_name ["thing"] fin _ := ⟨Fin, PySem.W.mg_of X G ain, bin⟩
  have Fir := fun_mk (st := sIs_row) lir cir kir
  have bir := Fir.binds (ps := ["thing"]) fun _ _ _ _ _ _ us hl => match us, hl with | [_], _ => rfl
  have Dir : Df K mg "is_row" sIs_row ["thing"] fir _ := ⟨Fir, PySem.W.mg_of X G air, bir⟩
  have Fip := fun_mk (st := sIs_step) lip cip kip
  have bip := Fip.binds (ps := ["thing"]) fun _ _ _ _ _ _ us hl => match us, hl with | [_], _ => rfl
  have Dip : Df K mg "is_step" sIs_step ["thing"] fip _ := ⟨Fip, PySem.W.mg_of X G aip, bip⟩
  have Fgs := fun_mk (st := sGood_steps) lgs cgs kgs
  have bgs := Fgs.binds (ps := ["steps"]) fun _ _ _ _ _ _ us hl => match us, hl with | [_], _ => rfl
  have Dgs : Df K mg "good_steps" sGood_steps ["steps"] fgs _ := ⟨Fgs, PySem.W.mg_of X G ags, bgs⟩
  have clH : Cls K CH := ⟨pgH, hdH, poH, saH⟩
  have mCH := PySem.W.mg_of X G aCH
  have MH : Mk K CH fHi := ⟨mkH, aiH, iiH, kcH⟩
  have FHi := fun_mk (st := sHand_init) lHi cHi kHi
  have bHi := FHi.binds (ps := ["self", "start", "steps"]) fun _ _ _ _ _ _ us hl => match us, hl with | [_, _, _], _ => rfl
  have PHb : PropOf K CH "start" pHb fHb := ⟨paHb, pbHb, pcHb, _, pdHb⟩
  have FHb := fun_mk (st := sHand_start) lHb cHb kHb
  have bHb := FHb.binds (ps := ["self"]) fun _ _ _ _ _ _ us hl => match us, hl with | [_], _ => rfl
  have PHs : PropOf K CH "steps" pHs fHs := ⟨paHs, pbHs, pcHs, _, pdHs⟩
  have FHs := fun_mk (st := sHand_steps) lHs cHs kHs
  have bHs := FHs.binds (ps := ["self"]) fun _ _ _ _ _ _ us hl => match us, hl with | [_], _ => rfl
  have PHw : PropOf K CH "words" pHw fHw := ⟨paHw, pbHw, pcHw, _, pdHw⟩
  have FHw := fun_mk (st := sHand_words) lHw cHw kHw
  have bHw := FHw.binds (ps := ["self"]) fun _ _ _ _ _ _ us hl => match us, hl with | [_], _ => rfl
  have HC : HandC K mg CH := ⟨clH, nHB, nHR, mCH⟩
  have Flp := fun_mk (st := sLpool) llp clp klp
  have blp := Flp.binds (ps := ["_law_script"]) fun _ _ _ _ _ _ us hl => match us, hl with | [_], _ => rfl
  have Dlp : Df K mg "_law_pool" sLpool ["_law_script"] flp _ := ⟨Flp, PySem.W.mg_of X G alp, blp⟩
  have Fld := fun_mk (st := sLdraw) lld cld kld
  have bld := Fld.binds (ps := ["_law_pool_here", "_law_many"]) fun _ _ _ _ _ _ us hl => match us, hl with | [_, _], _ => rfl
  have Dld : Df K mg "_law_draw" sLdraw ["_law_pool_here", "_law_many"] fld _ := ⟨Fld, PySem.W.mg_of X G ald, bld⟩
  have Flk := fun_mk (st := sLpick) llk clk klk
  have blk := Flk.binds (ps := ["_law_pool_here", "_law_items"]) fun _ _ _ _ _ _ us hl => match us, hl with | [_, _], _ => rfl
  have Dlk : Df K mg "_law_pick" sLpick ["_law_pool_here", "_law_items"] flk _ := ⟨Flk, PySem.W.mg_of X G alk, blk⟩
  have Fln := fun_mk (st := sLname) lln cln kln
  have bln := Fln.binds (ps := ["_law_pool_here", "_law_taken"]) fun _ _ _ _ _ _ us hl => match us, hl with | [_, _], _ => rfl
  have Dln : Df K mg "_law_name" sLname ["_law_pool_here", "_law_taken"] fln _ := ⟨Fln, PySem.W.mg_of X G aln, bln⟩
  have FlN := fun_mk (st := sLnames) llN clN klN
  have blN := FlN.binds (ps := ["_law_pool_here", "_law_many"]) fun _ _ _ _ _ _ us hl => match us, hl with | [_, _], _ => rfl
  have DlN : Df K mg "_law_names" sLnames ["_law_pool_here", "_law_many"] flN _ := ⟨FlN, PySem.W.mg_of X G alN, blN⟩
  have Flw := fun_mk (st := sLwhole) llw clw klw
  have blw := Flw.binds (ps := ["_law_thing"]) fun _ _ _ _ _ _ us hl => match us, hl with | [_], _ => rfl
  have Dlw : Df K mg "_law_whole" sLwhole ["_law_thing"] flw _ := ⟨Flw, PySem.W.mg_of X G alw, blw⟩
  have Fls := fun_mk (st := sLis_state) lls cls kls
  have bls := Fls.binds (ps := ["_law_thing"]) fun _ _ _ _ _ _ us hl => match us, hl with | [_], _ => rfl
  have Dls : Df K mg "_law_is_state" sLis_state ["_law_thing"] fls _ := ⟨Fls, PySem.W.mg_of X G als, bls⟩
  have Flm := fun_mk (st := sLis_name) llm clm klm
  have blm := Flm.binds (ps := ["_law_thing"]) fun _ _ _ _ _ _ us hl => match us, hl with | [_], _ => rfl
  have Dlm : Df K mg "_law_is_name" sLis_name ["_law_thing"] flm _ := ⟨Flm, PySem.W.mg_of X G alm, blm⟩
  have Flq := fun_mk (st := sLis_step) llq clq klq
  have blq := Flq.binds (ps := ["_law_thing"]) fun _ _ _ _ _ _ us hl => match us, hl with | [_], _ => rfl
  have Dlq : Df K mg "_law_is_step" sLis_step ["_law_thing"] flq _ := ⟨Flq, PySem.W.mg_of X G alq, blq⟩
  have Flu := fun_mk (st := sLdue) llu clu klu
  have blu := Flu.binds (ps := ["_law_start", "_law_steps"]) fun _ _ _ _ _ _ us hl => match us, hl with | [_, _], _ => rfl
  have Dlu : Df K mg "_law_due" sLdue ["_law_start", "_law_steps"] flu _ := ⟨Flu, PySem.W.mg_of X G alu, blu⟩
  have Flt := fun_mk (st := sLtold) llt clt klt
  have blt := Flt.binds (ps := ["_law_start", "_law_steps"]) fun _ _ _ _ _ _ us hl => match us, hl with | [_, _], _ => rfl
  have Dlt : Df K mg "_law_told" sLtold ["_law_start", "_law_steps"] flt _ := ⟨Flt, PySem.W.mg_of X G alt, blt⟩
  have Flr := fun_mk (st := sLrow) llr clr klr
  have blr := Flr.binds (ps := ["_law_pool_here"]) fun _ _ _ _ _ _ us hl => match us, hl with | [_], _ => rfl
  have Dlr : Df K mg "_law_row" sLrow ["_law_pool_here"] flr _ := ⟨Flr, PySem.W.mg_of X G alr, blr⟩
  have Flo := fun_mk (st := sLodd_step) llo clo klo
  have blo := Flo.binds (ps := ["_law_pool_here", "_law_step"]) fun _ _ _ _ _ _ us hl => match us, hl with | [_, _], _ => rfl
  have Dlo : Df K mg "_law_odd_step" sLodd_step ["_law_pool_here", "_law_step"] flo _ := ⟨Flo, PySem.W.mg_of X G alo, blo⟩
  have Flx := fun_mk (st := sLspoilt) llx clx klx
  have blx := Flx.binds (ps := ["_law_pool_here", "_law_start", "_law_steps"]) fun _ _ _ _ _ _ us hl => match us, hl with | [_, _, _], _ => rfl
  have Dlx : Df K mg "_law_spoilt" sLspoilt ["_law_pool_here", "_law_start", "_law_steps"] flx _ := ⟨Flx, PySem.W.mg_of X G alx, blx⟩
  have Flaw := fun_mk (st := sLaw) llaw claw klaw
  have blaw := Flaw.binds (ps := ["_law_script"]) fun _ _ _ _ _ _ us hl => match us, hl with | [_], _ => rfl
  have C1 : Cst mg := ⟨_, Vsm⟩
  have C2 : Cst2 mg := ⟨⟨_, Vms⟩, ⟨_, Vmo⟩⟩
  refine ⟨PySem.W.fnOf "law" "law" (defArgs sLaw) (defBody sLaw) (defScope sLaw) .none kVlaw dclaw pmlaw anlaw cdlaw ctlaw, fun s v => .of_eq rfl, fun base _ _ => ?_⟩
  have G1 : FnOk l.prog w K mg base CX0 3 fis _ ["thing"] (spIsState K) := ok_is_state Dis Dib Dii T
  have G2 : FnOk l.prog w K mg base CX0 1 fin _ ["thing"] (spIsName K) := ok_is_name Din T C1
  have G3 : FnOk l.prog w K mg base CX0 1 fir _ ["thing"] (spIsRow K) := ok_is_row Dir T
  have G4 : FnOk l.prog w K mg base CX0 4 fip _ ["thing"] (spIsStep K) := ok_is_step Dip Dis G1 Din G2 T
  have G5 : FnOk l.prog w K mg base (L2.CX l.prog w) 5 fgs _ ["steps"] (spGoodX K Cxs) := ok_goodX Dgs Xxs Dir G3 Dip G4 T C2
  have G6 : FnOk l.prog w K mg base (L2.CX l.prog w) 6 fHi _ ["self", "start", "steps"] (spHInitX K CH Cxb Cxs) := ok_hinitX FHi HC Xxb Dis G1 Dgs G5
  have G7 : FnOk l.prog w K mg base CX0 1 fHb _ ["self"] (spHStart CH) := ok_hstart FHb HC
  have G8 : FnOk l.prog w K mg base CX0 1 fHs _ ["self"] (spHSteps CH) := ok_hsteps FHs HC
  have G9 : FnOk l.prog w K mg base CX0 1 fHw _ ["self"] (spHWords CH) := ok_hwords FHw HC T
  have G11 : FnOk l.prog w K mg base CX0 1 flp _ ["_law_script"] (spPool K) := ok_pool Dlp T
  have G12 : FnOk l.prog w K mg base CX0 1 fld _ ["_law_pool_here", "_law_many"] spDraw := ok_draw Dld T
  have G13 : FnOk l.prog w K mg base CX0 3 flN _ ["_law_pool_here", "_law_many"] spNames := ok_names DlN Dln Dld T
  have G14 : FnOk l.prog w K mg base CX0 2 fls _ ["_law_thing"] (spIsState K) := ok_lstate Dls Dlw T
  have G15 : FnOk l.prog w K mg base CX0 1 flm _ ["_law_thing"] (spIsName K) := ok_lname Dlm T
  have G16 : FnOk l.prog w K mg base CX0 3 flq _ ["_law_thing"] (spIsStep K) := ok_lstep Dlq Dls G14 Dlm G15 T
  have G17 : FnOk l.prog w K mg base CX0 4 flu _ ["_law_start", "_law_steps"] (spDue K) := ok_due Dlu Dls G14 Dlq G16 T
  have G18 : FnOk l.prog w K mg base CX0 8 flt _ ["_law_start", "_law_steps"] (spTold K) := ok_told Dlt Xxb Xxs T TO HC MH G6 bHi
  have G19 : FnOk l.prog w K mg base CX0 4 flr _ ["_law_pool_here"] spRowL := ok_row Dlr Dld Dlk DlN G13 T
  have G20 : FnOk l.prog w K mg base CX0 3 flo _ ["_law_pool_here", "_law_step"] (spOdd K) := ok_odd Dlo Dld Dlk T
  have G21 : FnOk l.prog w K mg base CX0 4 flx _ ["_law_pool_here", "_law_start", "_law_steps"] (spSpoilt K) := ok_spoilt Dlx Dld Dlk Dlq G16 Dlo G20 T
  exact ok_law Flaw T (PySem.W.mg_none_of X G zset) HC Dlp G11 Dld G12 Dlr G19 Dlx G21 Dlu G17 Dlt G18 MH G6 bHi PHb G7 bHb PHs G8 bHs PHw G9 bHw
end WW
open PySem PySem.W PyProof.Rows in
set_option maxRecDepth 100000 in
set_option maxHeartbeats 0 in
theorem PySem.Challenge.cw_watchedworks_k00_hands_told_and_refused_holds : PySem.Challenge.rw_watchedworks_k00_hands_told_and_refused.Holds := by
  w_on; o_law; k_head; (case hw => w_witness2)
  k_fill
  refine L2.walk_of (l := PySem.Challenge.rw_watchedworks_k00_hands_told_and_refused) (n := 63) (k := 9) (x := "_law_script") (CX := fun _ => L2.CX0) (sp := fun w => WW.spLaw _) rfl (by decide) rfl ⟨rfl, by decide, by decide⟩ (fun w h Y => PySem.W.kIn_of Y) ?F (fun _ _ a ns hl _ hS => ⟨a, ns, rfl, hS, hl, fun _ => rfl⟩) (fun _ _ _ _ _ h => h)
  case F =>
    intro w mg fa h KX G hmg
    refine' WW.all_mk KX G hmg ?zabs ?zint ?zlen ?zmax ?zrange ?ztuple ?zlist ?zstr ?zbool ?zisinstance ?zall ?zsorted ?zenumerate ?zset ?zsuper ?zValueError ?vsm ?vms ?vmo ?ntop ?opq ?jb ?jc ?aCW ?aCT ?aCxb ?xLxb ?saxb ?eCxb ?tCxb ?kCxb ?iCxb ?tIxb ?lkxb ?hcxb ?coxbx ?v2xb ?flxb ?cexb ?mrxb ?suxb ?bvxb ?nfxb ?aCxs ?xLxs ?saxs ?eCxs ?tCxs ?kCxs ?iCxs ?tIxs ?lkxs ?hcxs ?coxsx ?v2xs ?flxs ?cexs ?mrxs ?suxs ?bvxs ?nfxs ?gaxb ?ggxb ?hdxb ?clxb ?moxb ?gaxs ?ggxs ?hdxs ?clxs ?moxs ?k1 ?k2 ?k3 ?k4 ?k5 ?s1 ?s2 ?s3 ?aii ?lii ?cii ?kii ?aib ?lib ?cib ?kib ?ais ?lis ?cis ?kis ?ain ?lin ?cin ?kin ?air ?lir ?cir ?kir ?aip ?lip ?cip ?kip ?ags ?lgs ?cgs ?kgs ?aCH ?pgH ?hdH ?poH ?saH ?nHB ?nHR ?mkH ?aiH ?iiH ?kcH ?lHi ?cHi ?kHi ?paHb ?pbHb ?pcHb ?pdHb ?lHb ?cHb ?kHb ?paHs ?pbHs ?pcHs ?pdHs ?lHs ?cHs ?kHs ?paHw ?pbHw ?pcHw ?pdHw ?lHw ?cHw ?kHw ?alp ?llp ?clp ?klp ?ald ?lld ?cld ?kld ?alk ?llk ?clk ?klk ?aln ?lln ?cln ?kln ?alN ?llN ?clN ?klN ?alw ?llw ?clw ?klw ?als ?lls ?cls ?kls ?alm ?llm ?clm ?klm ?alq ?llq ?clq ?klq ?alu ?llu ?clu ?klu ?alt ?llt ?clt ?klt ?alr ?llr ?clr ?klr ?alo ?llo ?clo ?klo ?alx ?llx ?clx ?klx ?alaw ?llaw ?claw ?klaw
    (case zabs => k_is)
    (case zint => k_is)
    (case zlen => k_is)
    (case zmax => k_is)
    (case zrange => k_is)
    (case ztuple => k_is)
    (case zlist => k_is)
    (case zstr => k_is)
    (case zbool => k_is)
    (case zisinstance => k_is)
    (case zall => k_is)
    (case zsorted => k_is)
    (case zenumerate => k_is)
    (case zset => k_is)
    (case zsuper => k_is)
    (case zValueError => k_is)
    (case vsm => k_is)
    (case vms => k_is)
    (case vmo => k_is)
    (case ntop => (first | rfl | decide +kernel))
    (case opq => k_is)
    (case jb => k_is)
    (case jc => k_is)
    (case aCW => k_is)
    (case aCT => k_is)
    (case aCxb => k_is)
    (case xLxb => k_is)
    (case saxb => k_is)
    (case eCxb => k_is)
    (case tCxb => k_is)
    (case kCxb => k_is)
    (case iCxb => k_is)
    (case tIxb => k_is)
    (case lkxb => k_is)
    (case hcxb => k_is)
    (case coxbx => k_is)
    (case v2xb => (rfl))
    (case flxb => (first | rfl | decide +kernel))
    (case cexb => k_is)
    (case mrxb => k_is)
    (case suxb => (first | ks_is | k_is))
    (case bvxb => k_is)
    (case nfxb => k_is)
    (case aCxs => k_is)
    (case xLxs => k_is)
    (case saxs => k_is)
    (case eCxs => k_is)
    (case tCxs => k_is)
    (case kCxs => k_is)
    (case iCxs => k_is)
    (case tIxs => k_is)
    (case lkxs => k_is)
    (case hcxs => k_is)
    (case coxsx => k_is)
    (case v2xs => (rfl))
    (case flxs => (first | rfl | decide +kernel))
    (case cexs => k_is)
    (case mrxs => k_is)
    (case suxs => (first | ks_is | k_is))
    (case bvxs => k_is)
    (case nfxs => k_is)
    (case gaxb => k_is)
    (case ggxb => k_is)
    (case hdxb => k_is)
    (case clxb => k_is)
    (case moxb => k_is)
    (case gaxs => k_is)
    (case ggxs => k_is)
    (case hdxs => k_is)
    (case clxs => k_is)
    (case moxs => k_is)
    (case k1 => (first | kit_is | k_is))
    (case k2 => (first | kit_is | k_is))
    (case k3 => (first | kit_is | k_is))
    (case k4 => (first | kit_is | k_is))
    (case k5 => (first | kit_is | k_is))
    (case s1 => k_is)
    (case s2 => k_is)
    (case s3 => k_is)
    (case aii => k_is)
    (case lii => k_is)
    (case cii => k_is)
    (case kii => k_is)
    (case aib => k_is)
    (case lib => k_is)
    (case cib => k_is)
    (case kib => k_is)
    (case ais => k_is)
    (case lis => k_is)
    (case cis => k_is)
    (case kis => k_is)
    (case ain => k_is)
    (case lin => k_is)
    (case cin => k_is)
    (case kin => k_is)
    (case air => k_is)
    (case lir => k_is)
    (case cir => k_is)
    (case kir => k_is)
    (case aip => k_is)
    (case lip => k_is)
    (case cip => k_is)
    (case kip => k_is)
    (case ags => k_is)
    (case lgs => k_is)
    (case cgs => k_is)
    (case kgs => k_is)
    (case aCH => k_is)
    (case pgH => k_is)
    (case hdH => k_is)
    (case poH => k_is)
    (case saH => k_is)
    (case nHB => k_is)
    (case nHR => k_is)
    (case mkH => k_is)
    (case aiH => k_is)
    (case iiH => k_is)
    (case kcH => k_is)
    (case lHi => k_is)
    (case cHi => k_is)
    (case kHi => k_is)
    (case paHb => k_is)
    (case pbHb => k_is)
    (case pcHb => k_is)
    (case pdHb => k_is)
    (case lHb => k_is)
    (case cHb => k_is)
    (case kHb => k_is)
    (case paHs => k_is)
    (case pbHs => k_is)
    (case pcHs => k_is)
    (case pdHs => k_is)
    (case lHs => k_is)
    (case cHs => k_is)
    (case kHs => k_is)
    (case paHw => k_is)
    (case pbHw => k_is)
    (case pcHw => k_is)
    (case pdHw => k_is)
    (case lHw => k_is)
    (case cHw => k_is)
    (case kHw => k_is)
    (case alp => k_is)
    (case llp => k_is)
    (case clp => k_is)
    (case klp => k_is)
    (case ald => k_is)
    (case lld => k_is)
    (case cld => k_is)
    (case kld => k_is)
    (case alk => k_is)
    (case llk => k_is)
    (case clk => k_is)
    (case klk => k_is)
    (case aln => k_is)
    (case lln => k_is)
    (case cln => k_is)
    (case kln => k_is)
    (case alN => k_is)
    (case llN => k_is)
    (case clN => k_is)
    (case klN => k_is)
    (case alw => k_is)
    (case llw => k_is)
    (case clw => k_is)
    (case klw => k_is)
    (case als => k_is)
    (case lls => k_is)
    (case cls => k_is)
    (case kls => k_is)
    (case alm => k_is)
    (case llm => k_is)
    (case clm => k_is)
    (case klm => k_is)
    (case alq => k_is)
    (case llq => k_is)
    (case clq => k_is)
    (case klq => k_is)
    (case alu => k_is)
    (case llu => k_is)
    (case clu => k_is)
    (case klu => k_is)
    (case alt => k_is)
    (case llt => k_is)
    (case clt => k_is)
    (case klt => k_is)
    (case alr => k_is)
    (case llr => k_is)
    (case clr => k_is)
    (case klr => k_is)
    (case alo => k_is)
    (case llo => k_is)
    (case clo => k_is)
    (case klo => k_is)
    (case alx => k_is)
    (case llx => k_is)
    (case clx => k_is)
    (case klx => k_is)
    (case alaw => k_is)
    (case llaw => k_is)
    (case claw => k_is)
    (case klaw => k_is)

