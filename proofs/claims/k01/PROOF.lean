import PyProof.Rows.All
import Wide.All
import OpenK.AllK
import Wide.FinOn
import HandS.ForMost
import HandS.Style
import HandS.Deep
import HandS.IsInst
import HandS.Property
import HandS.OwnEq
import HandS.Codes
import KE.SortData
import KE.GoesSet
import KE.GoesMore
import HandS.Set
import HandS.SetBool
import KE.OsSortAny
import PySem.Challenge.RW_watchedworks_k01_hands_are_equal
set_option Elab.async false
set_option linter.all false
set_option maxRecDepth 100000
set_option maxHeartbeats 4000000
/-! generic words for the laws of this program, over the hand layer -/
namespace WW
open PySem PySem.Spec PyProof.Rows L2

/-! ### a def of the text -/
structure Df (K : PySem.W.Frag) (mg : Str → Option Value) (x : Str) (st : Stmt) (ps : List Str) (f : Addr) (fd : FuncData) : Prop where
  fn : Fun K x x st f fd
  gl : mg x = some (.ref f)
  bi : Binds K fd ps []

section
variable {X : Cx} {k : Nat} {x : Str} {st : Stmt} {ps : List Str} {f : Addr} {fd : FuncData} {sp : Sp} {e : Expr} {es : List Expr} {p pos : Pos} {t : TA}
theorem pe_df (D : Df X.K X.mg x st ps f fd) (F : FnOk X.prog X.w X.K X.mg X.base CX0 k f fd ps sp) (hr : Room k X.A) (ha : PA X (e :: es) t) (hg : Gl X x := by rfl)
    (hdb : (x == ("__debug__" : Str)) = false := by decide) (he : starEach (e :: es) X.env = (false, eval e X.env) :: starEach es X.env := by rfl) (hpl : (backTo pos (starEach es X.env)).any (·.1) = false := by rfl) :
    PE X (.Call (.Name x p) (e :: es) [] pos) (tCall sp [] E0 t) :=
  pe_call F hr hg D.gl D.fn.kp D.bi .nil pass0 ha hdb he hpl
end
theorem hu65 {A : Around} {k : Nat} (hr : Room k A) : A.units + 65 < cLine := by
  have := hr.un
  omega

/-! ### heaps: a stable part S of the heap H, and what may change -/
theorem Same.seqT {K : PySem.W.Frag} {H H' : Hp} {a : Addr} {xs : List V} (e : Same H H') (h : SqT K H a xs) : SqT K H' a xs := by
  rcases h with (h | ⟨o, h⟩) | h
  · exact .inl (.inl (e _ _ h))
  · exact .inl (.inr ⟨o, e _ _ h⟩)
  · exact .inr h
mutual
theorem dp_mono {K : PySem.W.Frag} {S H : Hp} (e : Same S H) : ∀ (d : PyData) {v : V}, Dp K S v d → Dp K H v d
  | .none, _, h => by cases h; exact .non
  | .bool b, _, h => by cases h; exact .bl b
  | .int i, _, h => by cases h; exact .int i
  | .str x, _, h => by cases h; exact .str x
  | .list ds, _, h => by
    cases h with
    | lst a b => exact .lst (e.seq a) (dpAll_mono e ds b)
  | .tuple ds, _, h => by
    cases h with
    | tup a b => exact .tup (Same.seqT e a) (dpAll_mono e ds b)
  | .dict _, _, h => by cases h
theorem dpAll_mono {K : PySem.W.Frag} {S H : Hp} (e : Same S H) : ∀ (ds : List PyData) {vs : List V}, DpAll K S vs ds → DpAll K H vs ds
  | [], _, h => by cases h; exact .nil
  | d :: ds, _, h => by
    cases h with
    | cons a b => exact .cons (dp_mono e d a) (dpAll_mono e ds b)
end
theorem Dp.mono {K : PySem.W.Frag} {S H : Hp} {d : PyData} {v : V} (e : Same S H) (h : Dp K S v d) : Dp K H v d := dp_mono e d h
theorem DpAll.mono {K : PySem.W.Frag} {S H : Hp} {ds : List PyData} {vs : List V} (e : Same S H) (h : DpAll K S vs ds) : DpAll K H vs ds := dpAll_mono e ds h
theorem same_upd {H : Hp} {p : Addr} {o : HO} (h : H p = none) : Same H (upd H p o) := fun b x e => by
  rw [upd_ne (ne_of_none e h)]
  exact e

/-- from (S, H) to (S', H'): the stable part grows by new objects alone, all but p stand as they stood -/
structure Gr (p : Addr) (S H S' H' : Hp) : Prop where
  st : Same S S'
  rs : ∀ a o, a ≠ p → H a = some o → H' a = some o
  fr : ∀ a, S a = none → H a ≠ none → S' a = none
  ex : ∀ a, H a ≠ none → H' a ≠ none
theorem Gr.refl {p : Addr} {S H : Hp} : Gr p S H S H := ⟨Same.refl _, fun _ _ _ h => h, fun _ h _ => h, fun _ h => h⟩
theorem Gr.trans {p : Addr} {S H S1 H1 S2 H2 : Hp} (a : Gr p S H S1 H1) (b : Gr p S1 H1 S2 H2) : Gr p S H S2 H2 :=
  ⟨a.st.trans b.st, fun c o n h => b.rs c o n (a.rs c o n h), fun c h1 h2 => b.fr c (a.fr c h1 h2) (a.ex c h2), fun c h => b.ex c (a.ex c h)⟩
theorem Gr.bk {p : Addr} {S H S' H' : Hp} (g : Gr p S H S' H') {a : Addr} (h : H' a = none) : H a = none := by
  cases q : H a with
  | none => rfl
  | some o => exact absurd h (g.ex a (by rw [q]; intro z; cases z))
theorem Gr.loc {p : Addr} {S H S' H' : Hp} (g : Gr p S H S' H') {a : Addr} {o : HO} (n : a ≠ p) (hs : S a = none) (h : H a = some o) : S' a = none ∧ H' a = some o :=
  ⟨g.fr a hs (by rw [h]; intro z; cases z), g.rs a o n h⟩
/-- a new object, stable -/
theorem Gr.new {p : Addr} {S H S' H' : Hp} (g : Gr p S H S' H') (w : Same S' H') {a : Addr} {o : HO} (n : H' a = none) : Gr p S H (upd S' a o) (upd H' a o) := by
  have hs : S' a = none := w.free n
  refine ⟨g.st.trans (same_upd hs), fun b u nb h => ?_, fun b h1 h2 => ?_, fun b h => ?_⟩
  · have nba : b ≠ a := fun q => by
      rw [q] at h
      rw [g.bk n] at h
      cases h
    rw [upd_ne nba]
    exact g.rs b u nb h
  · have nba : b ≠ a := fun q => by
      rw [q] at h2
      exact h2 (g.bk n)
    rw [upd_ne nba]
    exact g.fr b h1 h2
  · by_cases q : b = a
    · rw [q, upd_same]
      intro z
      cases z
    · rw [upd_ne q]
      exact g.ex b h
theorem same_new {S H : Hp} (w : Same S H) {a : Addr} {o : HO} : Same (upd S a o) (upd H a o) := fun b u h => by
  by_cases q : b = a
  · rw [q, upd_same] at h
    rw [q, upd_same]
    exact h
  · rw [upd_ne q] at h
    rw [upd_ne q]
    exact w b u h
/-- a new object, or one that was new and is not stable yet, is written -/
theorem Gr.put {p : Addr} {S H S' H' : Hp} (g : Gr p S H S' H') {a : Addr} {o : HO} (n : H a = none) : Gr p S H S' (upd H' a o) := by
  refine ⟨g.st, fun b u nb h => ?_, g.fr, fun b h => ?_⟩
  · have nba : b ≠ a := fun q => by
      rw [q, n] at h
      cases h
    rw [upd_ne nba]
    exact g.rs b u nb h
  · by_cases q : b = a
    · rw [q, upd_same]
      intro z
      cases z
    · rw [upd_ne q]
      exact g.ex b h
/-- .. p itself is written -/
theorem Gr.putP {p : Addr} {S H S' H' : Hp} (g : Gr p S H S' H') {o : HO} : Gr p S H S' (upd H' p o) := by
  refine ⟨g.st, fun b u nb h => ?_, g.fr, fun b h => ?_⟩
  · rw [upd_ne nb]
    exact g.rs b u nb h
  · by_cases q : b = p
    · rw [q, upd_same]
      intro z
      cases z
    · rw [upd_ne q]
      exact g.ex b h
theorem same_put {S H : Hp} (w : Same S H) {a : Addr} {o : HO} (n : S a = none) : Same S (upd H a o) := fun b u h => by
  rw [upd_ne (ne_of_none h n)]
  exact w b u h
/-- what was new and stands there becomes stable -/
theorem Gr.fix {p : Addr} {S H S' H' : Hp} (g : Gr p S H S' H') {a : Addr} {o : HO} (n : H a = none) (h : S' a = none) : Gr p S H (upd S' a o) H' := by
  refine ⟨g.st.trans (same_upd h), g.rs, fun b h1 h2 => ?_, g.ex⟩
  have nba : b ≠ a := fun q => by
    rw [q] at h2
    exact h2 n
  rw [upd_ne nba]
  exact g.fr b h1 h2
theorem same_fix {S H : Hp} (w : Same S H) {a : Addr} {o : HO} (h : H a = some o) : Same (upd S a o) H := fun b u e => by
  by_cases q : b = a
  · rw [q, upd_same] at e
    rw [q, h]
    exact e
  · rw [upd_ne q] at e
    exact w b u e

/-! ### slices by numbers -/
theorem cut_from (xs : List V) (i : Nat) : cutV xs (some (i : Int)) none = xs.drop i := by
  unfold cutV
  rw [HT.sIx_nat, HT.sIx_none]
  by_cases h : i ≤ xs.length
  · rw [Nat.min_eq_left h]
    exact List.take_of_length_le (by rw [List.length_drop]; exact Nat.le_refl _)
  · rw [Nat.min_eq_right (by omega), List.drop_of_length_le (Nat.le_refl _), List.drop_of_length_le (by omega)]
    simp
theorem cut_to (xs : List V) (i : Nat) : cutV xs none (some (i : Int)) = xs.take i := by
  unfold cutV
  rw [HT.sIx_nat, HT.sIx_none]
  show (xs.drop 0).take (min i xs.length - 0) = xs.take i
  rw [List.drop_zero, Nat.sub_zero]
  by_cases h : i ≤ xs.length
  · rw [Nat.min_eq_left h]
  · rw [Nat.min_eq_right (by omega), List.take_of_length_le (Nat.le_refl _), List.take_of_length_le (by omega)]
theorem cutS_to (z : Str) (i : Nat) : cutS z none (some (i : Int)) = ⟨(z.cps.toList.take i).toArray⟩ := by
  unfold cutS
  rw [HT.sIx_nat, HT.sIx_none]
  show (⟨((z.cps.toList.drop 0).take (min i z.length - 0)).toArray⟩ : Str) = _
  rw [List.drop_zero, Nat.sub_zero]
  have hl : z.length = z.cps.toList.length := by simp [Str.length]
  by_cases h : i ≤ z.length
  · rw [Nat.min_eq_left h]
  · rw [Nat.min_eq_right (by omega), List.take_of_length_le (by omega), List.take_of_length_le (by omega)]
theorem ixN_at {n : Nat} {k : Int} (j : Nat) (e : k = (j : Int)) (h : j < n) : ixN n k = some j := by
  subst e
  unfold ixN
  rw [if_pos (by omega), if_pos (by omega)]
  simp

/-! ### comprehensions whose element and test change nothing that stood -/
theorem fm_take {α β : Type} (f : α → Option β) : ∀ (xs : List α) (i : Nat) (x : α), xs[i]? = some x → (xs.take (i + 1)).filterMap f = (xs.take i).filterMap f ++ (match f x with | some y => [y] | none => [])
  | [], _, _, h => by simp at h
  | a :: r, 0, x, h => by
    have e : a = x := Option.some.inj h
    subst e
    simp only [List.take_succ_cons, List.take_zero, List.filterMap_cons, List.filterMap_nil]
    cases f a <;> rfl
  | a :: r, i + 1, x, h => by
    have ih := fm_take f r i x h
    simp only [List.take_succ_cons, List.filterMap_cons]
    cases f a with
    | none => exact ih
    | some y =>
      show y :: (r.take (i + 1)).filterMap f = _
      rw [ih]
      rfl
theorem lc_step {j : Nat} {tt : TT} {te : TE} {vs : List Nat} {σ : L2.St} {H1 : Hp} {D : Addr} (f : V → Option V) (xs : List V) (hlen : xs.length ≤ 1000)
    (hw : ∀ x, wipe ((wipe σ vs).set j (some x)) vs = wipe σ vs)
    (step : ∀ x H, x ∈ xs → Same H1 H → ∀ Q : Option V → Hp → Prop, (∀ H', Same H H' → Q (f x) H') → tt ((wipe σ vs).set j (some x)) H fun b H3 => if b = true then te ((wipe σ vs).set j (some x)) H3 (fun y H4 => Q (some y) H4) else Q none H3)
    (hD : H1 D = none) (i : Nat) (x : V) (H : Hp) (hi : xs[i]? = some x) (hp : Same H1 H ∧ H D = some (.lst ((xs.take i).filterMap f))) :
    gName j x (wipe σ vs) H fun σ2 H2 => wipe σ2 vs = wipe σ vs ∧ tt σ2 H2 fun b H3 =>
      if b = true then te σ2 H3 fun y H4 => ∃ acc, H4 D = some (.lst acc) ∧ acc.length < sizeLine ∧ (Same H1 (upd H4 D (.lst (acc ++ [y]))) ∧ upd H4 D (.lst (acc ++ [y])) D = some (.lst ((xs.take (i + 1)).filterMap f))) else (Same H1 H3 ∧ H3 D = some (.lst ((xs.take (i + 1)).filterMap f))) := by
  have hx : x ∈ xs := List.mem_of_getElem? hi
  refine ⟨hw x, ?_⟩
  refine step x H hx hp.1 (fun o H4 => match o with
    | some y => ∃ acc, H4 D = some (.lst acc) ∧ acc.length < sizeLine ∧ (Same H1 (upd H4 D (.lst (acc ++ [y]))) ∧ upd H4 D (.lst (acc ++ [y])) D = some (.lst ((xs.take (i + 1)).filterMap f)))
    | none => (Same H1 H4 ∧ H4 D = some (.lst ((xs.take (i + 1)).filterMap f)))) fun H' s => ?_
  have hd := s _ _ hp.2
  have e := fm_take f xs i x hi
  cases q : f x with
  | none =>
    rw [q] at e
    exact ⟨hp.1.trans s, by rw [hd, e, List.append_nil]⟩
  | some y =>
    rw [q] at e
    refine ⟨_, hd, ?_, fun b o h => ?_, by rw [upd_same, e]⟩
    · have h1 : ((xs.take i).filterMap f).length ≤ (xs.take i).length := List.length_filterMap_le _ _
      have h2 : (xs.take i).length ≤ xs.length := by rw [List.length_take]; omega
      exact small1000 (by omega)
    · rw [upd_ne (ne_of_none h hD)]
      exact s _ _ (hp.1 _ _ h)
theorem lc_pure {K : PySem.W.Frag} {a : Addr} {xs : List V} {j : Nat} {tt : TT} {te : TE} {vs : List Nat} {σ : L2.St} {H1 : Hp} {D : Addr} {Qd : Hp → Prop} (f : V → Option V) (hx : SqL K H1 a xs) (hlen : xs.length ≤ 1000)
    (hw : ∀ x, wipe ((wipe σ vs).set j (some x)) vs = wipe σ vs)
    (step : ∀ x H, x ∈ xs → Same H1 H → ∀ Q : Option V → Hp → Prop, (∀ H', Same H H' → Q (f x) H') → tt ((wipe σ vs).set j (some x)) H fun b H3 => if b = true then te ((wipe σ vs).set j (some x)) H3 (fun y H4 => Q (some y) H4) else Q none H3)
    (hD : H1 D = none) (hd : ∀ H, Same H1 H → H D = some (.lst (xs.filterMap f)) → Qd H) :
    ∃ W : Nat → Nat → Hp → Prop, (∃ m, W 0 m (upd H1 D (.lst []))) ∧ ∀ i m H, W i m H →
      ((Itl K a).stop i H ∧ Qd H) ∨ ((Itl K a).go i H ∧ ∃ Nx : Hp → Prop, (∀ H', Nx H' → ∃ m', m' < m ∧ W (i + 1) m' H') ∧ ∀ x H', (Itl K a).yld i H x H' → gName j x (wipe σ vs) H' fun σ2 H2 => wipe σ2 vs = wipe σ vs ∧ tt σ2 H2 fun b H3 =>
        if b = true then te σ2 H3 fun y H4 => ∃ acc, H4 D = some (.lst acc) ∧ acc.length < sizeLine ∧ Nx (upd H4 D (.lst (acc ++ [y]))) else Nx H3) :=
  lc_list (K := K) (a := a) (xs := xs) (fun i H => Same H1 H ∧ H D = some (.lst ((xs.take i).filterMap f))) ⟨same_upd hD, upd_same⟩ (fun i H _ h => h.1.seq hx) (fun i x H hi hp => lc_step f xs hlen hw step hD i x H hi hp)
    (fun H h => hd H h.1 (by have := h.2; rw [List.take_length] at this; exact this))
theorem lc_pureT {K : PySem.W.Frag} {a : Addr} {xs : List V} {j : Nat} {tt : TT} {te : TE} {vs : List Nat} {σ : L2.St} {H1 : Hp} {D : Addr} {Qd : Hp → Prop} (f : V → Option V) (hx : SqT K H1 a xs) (hlen : xs.length ≤ 1000)
    (hw : ∀ x, wipe ((wipe σ vs).set j (some x)) vs = wipe σ vs)
    (step : ∀ x H, x ∈ xs → Same H1 H → ∀ Q : Option V → Hp → Prop, (∀ H', Same H H' → Q (f x) H') → tt ((wipe σ vs).set j (some x)) H fun b H3 => if b = true then te ((wipe σ vs).set j (some x)) H3 (fun y H4 => Q (some y) H4) else Q none H3)
    (hD : H1 D = none) (hd : ∀ H, Same H1 H → H D = some (.lst (xs.filterMap f)) → Qd H) :
    ∃ W : Nat → Nat → Hp → Prop, (∃ m, W 0 m (upd H1 D (.lst []))) ∧ ∀ i m H, W i m H →
      ((Itt K a).stop i H ∧ Qd H) ∨ ((Itt K a).go i H ∧ ∃ Nx : Hp → Prop, (∀ H', Nx H' → ∃ m', m' < m ∧ W (i + 1) m' H') ∧ ∀ x H', (Itt K a).yld i H x H' → gName j x (wipe σ vs) H' fun σ2 H2 => wipe σ2 vs = wipe σ vs ∧ tt σ2 H2 fun b H3 =>
        if b = true then te σ2 H3 fun y H4 => ∃ acc, H4 D = some (.lst acc) ∧ acc.length < sizeLine ∧ Nx (upd H4 D (.lst (acc ++ [y]))) else Nx H3) :=
  lc_tup (K := K) (a := a) (xs := xs) (fun i H => Same H1 H ∧ H D = some (.lst ((xs.take i).filterMap f))) ⟨same_upd hD, upd_same⟩ (fun i H _ h => Same.seqT h.1 hx) (fun i x H hi hp => lc_step f xs hlen hw step hD i x H hi hp)
    (fun H h => hd H h.1 (by have := h.2; rw [List.take_length] at this; exact this))
/-- .. over a text -/
def signs (z : Str) : List V := z.cps.toList.map fun c => V.str ⟨#[c]⟩
theorem lc_pureS {x : Str} {j : Nat} {tt : TT} {te : TE} {vs : List Nat} {σ : L2.St} {H1 : Hp} {D : Addr} {Qd : Hp → Prop} (f : V → Option V) (hlen : x.length ≤ 1000)
    (hw : ∀ x, wipe ((wipe σ vs).set j (some x)) vs = wipe σ vs)
    (step : ∀ y H, y ∈ signs x → Same H1 H → ∀ Q : Option V → Hp → Prop, (∀ H', Same H H' → Q (f y) H') → tt ((wipe σ vs).set j (some y)) H fun b H3 => if b = true then te ((wipe σ vs).set j (some y)) H3 (fun y H4 => Q (some y) H4) else Q none H3)
    (hD : H1 D = none) (hd : ∀ H, Same H1 H → H D = some (.lst ((signs x).filterMap f)) → Qd H) :
    ∃ W : Nat → Nat → Hp → Prop, (∃ m, W 0 m (upd H1 D (.lst []))) ∧ ∀ i m H, W i m H →
      ((Its x).stop i H ∧ Qd H) ∨ ((Its x).go i H ∧ ∃ Nx : Hp → Prop, (∀ H', Nx H' → ∃ m', m' < m ∧ W (i + 1) m' H') ∧ ∀ y H', (Its x).yld i H y H' → gName j y (wipe σ vs) H' fun σ2 H2 => wipe σ2 vs = wipe σ vs ∧ tt σ2 H2 fun b H3 =>
        if b = true then te σ2 H3 fun y H4 => ∃ acc, H4 D = some (.lst acc) ∧ acc.length < sizeLine ∧ Nx (upd H4 D (.lst (acc ++ [y]))) else Nx H3) := by
  have hsz : x.cps.size = (signs x).length := by simp [signs]
  have hl2 : (signs x).length ≤ 1000 := by rw [← hsz]; exact hlen
  refine ⟨fun i m H => m = x.cps.size - i ∧ i ≤ x.cps.size ∧ Same H1 H ∧ H D = some (.lst (((signs x).take i).filterMap f)), ⟨_, rfl, Nat.zero_le _, same_upd hD, upd_same⟩, ?_⟩
  rintro i m H ⟨rfl, hi, hs, he⟩
  by_cases h : i < x.cps.size
  · refine .inr ⟨h, fun H => Same H1 H ∧ H D = some (.lst (((signs x).take (i + 1)).filterMap f)), fun H' h' => ⟨_, by omega, rfl, by omega, h'⟩, ?_⟩
    rintro y H' ⟨rfl, c, hc, rfl⟩
    refine lc_step f (signs x) hl2 hw step hD i _ H' ?_ ⟨hs, he⟩
    unfold signs
    rw [List.getElem?_map, Array.getElem?_toList, hc]
    rfl
  · refine .inl ⟨by show x.cps.size ≤ i; omega, hd H hs ?_⟩
    rw [he, List.take_of_length_le (by omega)]
theorem at_ofG {α : Type} {xs : List α} {z : Int} {j : Nat} {v : α} (e : z = (j : Int)) (h : xs[j]? = some v) : atI xs z = some v := by
  rw [e]
  exact atI_nat h
theorem Gr.same {p : Addr} {S H S' H' H2 : Hp} (g : Gr p S H S' H') (s : Same H' H2) : Gr p S H S' H2 :=
  ⟨g.st, fun a o n h => s _ _ (g.rs a o n h), g.fr, fun a h => by
    have := g.ex a h
    cases q : H' a with
    | none => exact absurd q this
    | some o =>
      rw [s _ _ q]
      intro z
      cases z⟩
end WW

set_option Elab.async false
set_option linter.all false
set_option maxRecDepth 100000
set_option maxHeartbeats 4000000
namespace WW
open PySem PySem.Spec PyProof.Rows L2
def topS (i : Nat) : Stmt := PySem.Challenge.pw_watchedworks_k01_hands_are_equal.main.body.getD i (.Pass ⟨0, 0, 0, 0⟩)
structure Bl (mg : Str → Option Value) : Prop where
  abs : mg "abs" = none
  int : mg "int" = none
  len : mg "len" = none
  max : mg "max" = none
  range : mg "range" = none
  tuple : mg "tuple" = none
  list : mg "list" = none
  str : mg "str" = none
  bool : mg "bool" = none
  isinstance : mg "isinstance" = none
  all : mg "all" = none
  sorted : mg "sorted" = none
  enumerate : mg "enumerate" = none

/-! ### the pool of a law's draws -/
structure Pool (S H : Hp) (p : Addr) : Prop where
  ss : Same S H
  np : S p = none
  at_ : ∃ (g s : Addr) (cur cnt : Int) (gs ns : List Int), H p = some (.lst [.ref g, .ref s, .int cur, .int cnt]) ∧ S g = some (.lst (gs.map V.int)) ∧ S s = some (.lst (ns.map V.int)) ∧ gs.length ≤ 63 ∧ ns.length ≤ 63
theorem Pool.has {S H : Hp} {p : Addr} (P : Pool S H p) : H p ≠ none := by
  obtain ⟨_, _, _, _, _, _, _, _, h, _⟩ := P
  rw [h]
  intro z
  cases z
/-- a new stable object -/
theorem Pool.new {S H : Hp} {p a : Addr} {o : HO} (P : Pool S H p) (n : H a = none) : Pool (upd S a o) (upd H a o) p := by
  have npa : p ≠ a := fun q => P.has (by rw [q]; exact n)
  have ns : S a = none := P.ss.free n
  obtain ⟨ss, np, g, sm, cur, cnt, gs, ns', hp, hg, hs, lg, ls⟩ := P
  exact ⟨same_new ss, by rw [upd_ne npa]; exact np, g, sm, cur, cnt, gs, ns', by rw [upd_ne npa]; exact hp, by rw [upd_ne (ne_of_none hg ns)]; exact hg, by rw [upd_ne (ne_of_none hs ns)]; exact hs, lg, ls⟩
/-- an object that is not stable is written -/
theorem Pool.put {S H : Hp} {p a : Addr} {o : HO} (P : Pool S H p) (n : S a = none) (npa : a ≠ p) : Pool S (upd H a o) p := by
  obtain ⟨ss, np, g, sm, cur, cnt, gs, ns', hp, hg, hs, lg, ls⟩ := P
  exact ⟨same_put ss n, np, g, sm, cur, cnt, gs, ns', by rw [upd_ne npa.symm]; exact hp, hg, hs, lg, ls⟩
theorem Pool.fix {S H : Hp} {p a : Addr} {o : HO} (P : Pool S H p) (h : H a = some o) (n : S a = none) (npa : a ≠ p) : Pool (upd S a o) H p := by
  obtain ⟨ss, np, g, sm, cur, cnt, gs, ns', hp, hg, hs, lg, ls⟩ := P
  exact ⟨same_fix ss h, by rw [upd_ne npa.symm]; exact np, g, sm, cur, cnt, gs, ns', hp, by rw [upd_ne (ne_of_none hg n)]; exact hg, by rw [upd_ne (ne_of_none hs n)]; exact hs, lg, ls⟩
theorem Pool.same {S H H2 : Hp} {p : Addr} (P : Pool S H p) (s : Same H H2) : Pool S H2 p := by
  obtain ⟨ss, np, g, sm, cur, cnt, gs, ns', hp, hg, hs, lg, ls⟩ := P
  exact ⟨ss.trans s, np, g, sm, cur, cnt, gs, ns', s _ _ hp, hg, hs, lg, ls⟩
section
variable {P : Program} {w : World} {K : PySem.W.Frag} {mg : Str → Option Value} {base : Heap} {f : Addr} {fd : FuncData}
abbrev sLdraw : Stmt := topS 20
abbrev nLdraw : List Str := ["_law_pool_here", "_law_many", "_law_great", "_law_digit", "_law_seed", "_law_number"]
theorem scLdraw : FnScope nLdraw ["_law_pool_here", "_law_many"] (defScope sLdraw) := ⟨rfl, rfl, rfl, by decide +kernel, rfl, by decide +kernel, by decide +kernel⟩
def spDraw : Sp := fun vs H Q _ => ∃ (p : Addr) (S : Hp) (n : Int), vs = [.ref p, .int n] ∧ 0 < n ∧ n < 1000000 ∧ Pool S H p ∧
  ∀ (d : Int) (S' H' : Hp), Pool S' H' p → Gr p S H S' H' → 0 ≤ d → d < n → Q (.int d) H'
theorem ok_draw (D : Df K mg "_law_draw" sLdraw ["_law_pool_here", "_law_many"] f fd) (T : Bl mg) : FnOk P w K mg base CX0 1 f fd ["_law_pool_here", "_law_many"] spDraw := by
  refine D.fn.ok scLdraw (fun vs H Q E h => ?_) (fun cdv A outer s H vs Q E hr h => ?_)
  · obtain ⟨p, S, n, rfl, _⟩ := h
    rfl
  · obtain ⟨p, S, n, rfl, n0, n1, ⟨ss, np, g, sm, cur, cnt, gs, ns, hp, hg, hs, lg, ls⟩, q⟩ := h
    refine ⟨_, (C8.pss_cut (ps_if (PW.pt (pw_and (pt_cmpR op_eq (pe_ix ix_list (pv 0) pe_int (fun _ _ => rfl)) pe_int (nomark _)) (pw_and1 (pt_cmpR op_gt (pe_callB call_len (by rfl) T.len (by decide +kernel) (pa_cons (pe_ix ix_list (pv 0) pe_int (fun _ _ => rfl)) pa_nil)) pe_int (nomark _))))) (pss_cons (ps_set (i := 2) scLdraw.nd rfl (Or.inl rfl) (pe_ix ix_list (pv 0) pe_int (fun _ _ => rfl)))
      (pss_one (ps_asg (pe_tup (pa_cons (pe_ix ix_list (pv 2) pe_int (fun _ _ => rfl)) (pa_cons (pe_slice sl_list (pv 2) (po_some pe_int) po_none) pa_nil))) (pg_tup rfl (pgs_cons (pg_sub (pv 0) pe_int set_list) (pgs_cons (pg_sub (pv 0) pe_int set_list) pgs_nil)))))) pss_nil)
      (pss_cons (ps_if (pt_cmpR op_gt (pe_ix ix_list (pv 0) pe_int (fun _ _ => rfl)) pe_int (nomark _)) (pss_cons (ps_asg (pe_tup (pa_cons (pe_op op_mod (pe_callTy call_int1 (by rfl) T.int (by decide +kernel) (pa_cons (pe_ix ix_list (pv 0) pe_int (fun _ _ => rfl)) pa_nil)) (pv 1)) (pa_cons (pe_op op_fdiv (pe_ix ix_list (pv 0) pe_int (fun _ _ => rfl)) (pv 1)) pa_nil))) (pg_tup rfl (pgs_cons (pg_name (i := 3) scLdraw.nd rfl (Or.inl rfl)) (pgs_cons (pg_sub (pv 0) pe_int set_list) pgs_nil))))
      (pss_one (ps_ret (pv 3)))) pss_nil)
      (pss_cons (ps_asg (pe_op op_add (pe_ix ix_list (pv 0) pe_int (fun _ _ => rfl)) pe_int) (pg_sub (pv 0) pe_int set_list))
      (pss_cons (ps_set (i := 4) scLdraw.nd rfl (Or.inl rfl) (pe_ix ix_list (pe_op op_cat (pe_ix ix_list (pv 0) pe_int (fun _ _ => rfl)) (pe_lst (pa_cons pe_int pa_nil))) (pe_op op_mod (pe_callTy call_int1 (by rfl) T.int (by decide +kernel) (pa_cons (pe_ix ix_list (pv 0) pe_int (fun _ _ => rfl)) pa_nil)) (pe_callB (call_max2 rfl) (by rfl) T.max (by decide +kernel) (pa_cons pe_int (pa_cons (pe_callB call_len (by rfl) T.len (by decide +kernel) (pa_cons (pe_ix ix_list (pv 0) pe_int (fun _ _ => rfl)) pa_nil)) pa_nil)))) (fun _ _ => rfl)))
      (pss_cons (ps_set (i := 5) scLdraw.nd rfl (Or.inl rfl) (pe_op op_mod (pe_callTy call_int1 (by rfl) T.int (by decide +kernel) (pa_cons (pe_op op_mul (pe_op op_add (pe_op op_add (pv 4) (pe_op op_mul pe_int (pe_ix ix_list (pv 0) pe_int (fun _ _ => rfl)))) pe_int) pe_int) pa_nil)) pe_int))
      (pss_cons (ps_set (i := 5) scLdraw.nd rfl (Or.inl rfl) (pe_op op_mod (pe_callTy call_int1 (by rfl) T.int (by decide +kernel) (pa_cons (pe_op op_mul (pv 5) (pe_op op_add (pe_op op_fdiv (pv 5) pe_int) pe_int)) pa_nil)) pe_int))
      (pss_cons (ps_set (i := 5) scLdraw.nd rfl (Or.inl rfl) (pe_op op_mod (pe_callTy call_int1 (by rfl) T.int (by decide +kernel) (pa_cons (pe_op op_mul (pv 5) (pe_op op_add (pe_op op_fdiv (pv 5) pe_int) pe_int)) pa_nil)) pe_int))
      (pss_one (ps_ret (pe_op op_mod (pe_callTy call_int1 (by rfl) T.int (by decide +kernel) (pa_cons (pe_op op_fdiv (pv 5) pe_int) pa_nil)) (pv 1))))))))))), ?_⟩
    refine ⟨fun σ H1 => ∃ S1 v2, σ = [some (.ref p), some (.int n), v2, none, none, none] ∧ Pool S1 H1 p ∧ Gr p S H S1 H1, ?_, ?_⟩
    · refine ⟨_, rfl, p, _, 2, _, rfl, rfl, SqL.of hp, atI_nat (j := 2) rfl, rfl, _, rfl, ite2 (fun c => ?_) (fun c => ?_)⟩
      · refine ⟨_, rfl, p, _, 0, _, rfl, rfl, SqL.of hp, atI_nat (j := 0) rfl, _, _, rfl, .inl ⟨_, SqL.of (ss _ _ hg), rfl⟩, _, _, rfl, rfl, _, rfl, ite2 (fun c2 => ?_) (fun c2 => ?_)⟩
        · refine ⟨_, rfl, p, _, 0, _, rfl, rfl, SqL.of hp, atI_nat (j := 0) rfl, ?_⟩
          obtain ⟨x, r, rfl⟩ : ∃ x r, gs = x :: r := by
            cases gs with
            | nil => cases c2
            | cons x r => exact ⟨x, r, rfl⟩
          have P0 : Pool S H p := ⟨ss, np, g, sm, cur, cnt, _, ns, hp, hg, hs, lg, ls⟩
          have hg' := ss _ _ hg
          refine ⟨_, rfl, g, _, 0, _, rfl, rfl, SqL.of hg', atI_nat (j := 0) rfl, _, rfl, 1, rfl, g, _, rfl, SqL.of hg', fun l hl => ?_⟩
          have P1 := P0.new (o := .lst (cutV (List.map V.int (x :: r)) (some 1) none)) hl
          refine ⟨by show 2 ≤ sizeLine; decide, fun t ht => ?_⟩
          have P2 := P1.new (o := .tup [V.int x, V.ref l]) ht
          have npl : p ≠ l := fun z => P0.has (by rw [z]; exact hl)
          have npt : p ≠ t := fun z => P1.has (by rw [z]; exact ht)
          have nlt : l ≠ t := fun z => by rw [← z, upd_same] at ht; cases ht
          have hp2 : upd (upd H l (.lst (cutV (List.map V.int (x :: r)) (some 1) none))) t (.tup [V.int x, V.ref l]) p = some (.lst [.ref g, .ref sm, .int cur, .int cnt]) := by rw [upd_ne npt, upd_ne npl]; exact hp
          refine ⟨t, _, rfl, SqT.of upd_same, rfl, _, _, rfl, ?_⟩
          refine ⟨_, rfl, p, _, 2, 2, rfl, rfl, hp2, rfl, ?_⟩
          refine ⟨_, _, rfl, _, rfl, p, _, 0, 0, rfl, rfl, upd_same, rfl, ?_⟩
          refine ⟨rfl, upd (upd S l (.lst (cutV (List.map V.int (x :: r)) (some 1) none))) t (.tup [V.int x, V.ref l]), some (.ref g), rfl, ?_, ((Gr.refl.new ss hl).new P1.ss ht).putP.putP⟩
          refine ⟨same_put (same_put P2.ss P2.np) P2.np, P2.np, l, sm, x, cnt, r, ns, by rw [upd_same]; rfl, by rw [upd_ne nlt, upd_same, show (1 : Int) = ((1 : Nat) : Int) from rfl, cut_from]; rfl, ?_, by simp at lg; omega, ls⟩
          rw [upd_ne (ne_of_none (same_upd (ss.free hl) _ _ hs) (P1.ss.free ht)), upd_ne (ne_of_none hs (ss.free hl))]
          exact hs
        · exact ⟨S, none, rfl, ⟨ss, np, g, sm, cur, cnt, gs, ns, hp, hg, hs, lg, ls⟩, Gr.refl⟩
      · exact ⟨S, none, rfl, ⟨ss, np, g, sm, cur, cnt, gs, ns, hp, hg, hs, lg, ls⟩, Gr.refl⟩
    · rintro σ H1 ⟨S1, v2, rfl, P1, g1⟩
      obtain ⟨ss, np, g, sm, cur, cnt, gs, ns, hp, hg, hs, lg, ls⟩ := id P1
      refine ⟨_, rfl, p, _, 2, _, rfl, rfl, SqL.of hp, atI_nat (j := 2) rfl, _, _, rfl, rfl, _, rfl, ite2 (fun c => ?_) (fun c => ?_)⟩
      · refine ⟨_, rfl, p, _, 2, _, rfl, rfl, SqL.of hp, atI_nat (j := 2) rfl, .inl ⟨_, rfl, _, rfl, _, _, rfl, rfl, n0, _, rfl, p, _, 2, _, rfl, rfl, SqL.of hp, atI_nat (j := 2) rfl, _, rfl, _, _, rfl, rfl, ⟨n0, by omega⟩, by show 2 ≤ sizeLine; decide, fun t ht => ?_⟩⟩
        have npt : p ≠ t := fun z => P1.has (by rw [z]; exact ht)
        have P2 := P1.new (o := .tup [V.int (cur % n), V.int (cur / n)]) ht
        refine ⟨t, _, rfl, SqT.of upd_same, rfl, _, _, rfl, _, _, rfl, _, rfl, p, _, 2, 2, rfl, rfl, (upd_ne npt).trans hp, rfl, rfl, _, rfl, ?_⟩
        refine q _ _ _ ?_ (g1.new ss ht).putP (Int.emod_nonneg _ (by omega)) (Int.emod_lt_of_pos _ n0)
        refine ⟨same_put P2.ss P2.np, P2.np, g, sm, cur / n, cnt, gs, ns, by rw [upd_same]; rfl, by rw [upd_ne (ne_of_none hg (ss.free ht))]; exact hg, by rw [upd_ne (ne_of_none hs (ss.free ht))]; exact hs, lg, ls⟩
      · refine ⟨_, rfl, p, _, 3, _, rfl, rfl, SqL.of hp, atI_nat (j := 3) rfl, _, _, rfl, rfl, _, rfl, p, _, 3, 3, rfl, rfl, hp, rfl, ?_⟩
        have Pa : Pool S1 (upd H1 p (.lst [.ref g, .ref sm, .int cur, .int (cnt + 1)])) p := ⟨same_put ss np, np, g, sm, cur, cnt + 1, gs, ns, upd_same, hg, hs, lg, ls⟩
        have ga : Gr p S H S1 (upd H1 p (.lst [.ref g, .ref sm, .int cur, .int (cnt + 1)])) := g1.putP
        show tSeq _ _ _ _ (upd H1 p (.lst [.ref g, .ref sm, .int cur, .int (cnt + 1)]))
        have ha : upd H1 p (.lst [.ref g, .ref sm, .int cur, .int (cnt + 1)]) p = some (.lst [.ref g, .ref sm, .int cur, .int (cnt + 1)]) := upd_same
        generalize upd H1 p (.lst [.ref g, .ref sm, .int cur, .int (cnt + 1)]) = Ha at Pa ga ha ⊢
        have hsa := Pa.ss _ _ hs
        refine ⟨_, rfl, p, _, 1, _, rfl, rfl, SqL.of ha, atI_nat (j := 1) rfl, by show 1 ≤ sizeLine; decide, fun b hb => ?_⟩
        have Pb := Pa.new (o := .lst [V.int 0]) hb
        have gb := ga.new (o := .lst [V.int 0]) Pa.ss hb
        have npb : p ≠ b := fun z => Pa.has (by rw [z]; exact hb)
        have hpb : upd Ha b (.lst [V.int 0]) p = some (.lst [.ref g, .ref sm, .int cur, .int (cnt + 1)]) := (upd_ne npb).trans ha
        have hsb : upd Ha b (.lst [V.int 0]) sm = some (.lst (ns.map V.int)) := (upd_ne (ne_of_none hsa hb)).trans hsa
        have hbb : upd Ha b (.lst [V.int 0]) b = some (.lst [V.int 0]) := upd_same
        generalize upd Ha b (.lst [V.int 0]) = Hb at Pb gb hpb hsb hbb ⊢
        refine ⟨sm, b, _, _, rfl, rfl, hsb, hbb, ?_, fun l hl => ?_⟩
        · rw [List.length_map]
          exact Nat.le_of_lt (small1000 (by show ns.length + 1 ≤ 1000; omega))
        have Pc := Pb.new (o := .lst (ns.map V.int ++ [V.int 0])) hl
        have gc := gb.new (o := .lst (ns.map V.int ++ [V.int 0])) Pb.ss hl
        have npl : p ≠ l := fun z => Pb.has (by rw [z]; exact hl)
        have hpc : upd Hb l (.lst (ns.map V.int ++ [V.int 0])) p = some (.lst [.ref g, .ref sm, .int cur, .int (cnt + 1)]) := (upd_ne npl).trans hpb
        have hsc : upd Hb l (.lst (ns.map V.int ++ [V.int 0])) sm = some (.lst (ns.map V.int)) := (upd_ne (ne_of_none hsb hl)).trans hsb
        have hlc : upd Hb l (.lst (ns.map V.int ++ [V.int 0])) l = some (.lst (ns.map V.int ++ [V.int 0])) := upd_same
        generalize upd Hb l (.lst (ns.map V.int ++ [V.int 0])) = Hc at Pc gc hpc hsc hlc ⊢
        refine ⟨_, rfl, p, _, 3, _, rfl, rfl, SqL.of hpc, atI_nat (j := 3) rfl, .inl ⟨_, rfl, _, rfl, p, _, 1, _, rfl, rfl, SqL.of hpc, atI_nat (j := 1) rfl, _, _, rfl, .inl ⟨_, SqL.of hsc, rfl⟩, _, _, rfl, _, _, rfl, rfl, ?_, ?_⟩⟩
        · show (0 : Int) < if ((ns.map V.int).length : Int) > 1 then ((ns.map V.int).length : Int) else 1
          split <;> omega
        obtain ⟨z, hz⟩ : ∃ z : Int, atI (ns.map V.int ++ [V.int 0]) ((cnt + 1) % (if ((ns.map V.int).length : Int) > 1 then ((ns.map V.int).length : Int) else 1)) = some (.int z) := by
          have e : ns.map V.int ++ [V.int 0] = (ns ++ [0]).map V.int := by simp
          obtain ⟨j, hj, hjl⟩ : ∃ j : Nat, (cnt + 1) % (if ((ns.map V.int).length : Int) > 1 then ((ns.map V.int).length : Int) else 1) = (j : Int) ∧ j < ns.length + 1 := by
            rw [List.length_map]
            have hm : (0 : Int) < if (ns.length : Int) > 1 then (ns.length : Int) else 1 := by split <;> omega
            have hm2 : (if (ns.length : Int) > 1 then (ns.length : Int) else 1) ≤ ns.length + 1 := by split <;> omega
            have h1 := Int.emod_nonneg (cnt + 1) (b := if (ns.length : Int) > 1 then (ns.length : Int) else 1) (by omega)
            have h2 := Int.emod_lt_of_pos (cnt + 1) hm
            exact ⟨((cnt + 1) % (if (ns.length : Int) > 1 then (ns.length : Int) else 1)).toNat, by omega, by omega⟩
          rw [hj, e]
          have hl2 : j < (ns ++ [0]).length := by simp; omega
          exact ⟨(ns ++ [0])[j], atI_nat (by rw [List.getElem?_map, List.getElem?_eq_getElem hl2]; rfl)⟩
        refine ⟨l, _, _, _, rfl, rfl, SqL.of hlc, hz, ?_⟩
        refine ⟨_, rfl, _, rfl, p, _, 3, _, rfl, rfl, SqL.of hpc, atI_nat (j := 3) rfl, _, _, rfl, rfl, .inl ⟨by decide, by decide⟩, _, _, rfl, rfl, _, _, rfl, rfl, _, _, rfl, rfl, .inr ⟨by decide, by decide⟩, .inl ⟨_, rfl, _, _, rfl, rfl, by show (0 : Int) < 2147483647; decide, ?_⟩⟩
        have y0 := Int.emod_nonneg ((z + 7919 * (cnt + 1) + 1) * 48271) (b := 2147483647) (by decide)
        have y1 := Int.emod_lt_of_pos ((z + 7919 * (cnt + 1) + 1) * 48271) (b := 2147483647) (by decide)
        show tSeq _ _ _ [some (.ref p), some (.int n), v2, none, some (.int z), some (.int (((z + 7919 * (cnt + 1) + 1) * 48271) % 2147483647))] Hc
        generalize ((z + 7919 * (cnt + 1) + 1) * 48271) % 2147483647 = y at y0 y1 ⊢
        refine ⟨_, rfl, _, rfl, _, _, rfl, rfl, ⟨by decide, by decide⟩, _, _, rfl, rfl, _, _, rfl, rfl, .inl ⟨by omega, by omega⟩, .inl ⟨_, rfl, _, _, rfl, rfl, by show (0 : Int) < 2147483647; decide, ?_⟩⟩
        have x0 := Int.emod_nonneg (y * (y / 1009 + 69621)) (b := 2147483647) (by decide)
        have x1 := Int.emod_lt_of_pos (y * (y / 1009 + 69621)) (b := 2147483647) (by decide)
        show tSeq _ _ _ [some (.ref p), some (.int n), v2, none, some (.int z), some (.int ((y * (y / 1009 + 69621)) % 2147483647))] Hc
        generalize (y * (y / 1009 + 69621)) % 2147483647 = x at x0 x1 ⊢
        refine ⟨_, rfl, _, rfl, _, _, rfl, rfl, ⟨by decide, by decide⟩, _, _, rfl, rfl, _, _, rfl, rfl, .inl ⟨by omega, by omega⟩, .inl ⟨_, rfl, _, _, rfl, rfl, by show (0 : Int) < 2147483399; decide, ?_⟩⟩
        refine ⟨_, rfl, _, _, rfl, rfl, ⟨by decide, by decide⟩, .inl ⟨_, rfl, _, rfl, _, _, rfl, rfl, n0, ?_⟩⟩
        exact q _ _ _ Pc gc (Int.emod_nonneg _ (by omega)) (Int.emod_lt_of_pos _ n0)
end
end WW

set_option Elab.async false
set_option linter.all false
set_option maxRecDepth 100000
set_option maxHeartbeats 4000000
namespace WW
open PySem PySem.Spec PyProof.Rows L2
section
variable {P : Program} {w : World} {K : PySem.W.Frag} {mg : Str → Option Value} {base : Heap} {f : Addr} {fd : FuncData}
abbrev sLpool : Stmt := topS 19
abbrev nLpool : List Str := ["_law_script", "_law_cells", "_law_great", "_law_small", "_law_cell"]
theorem scLpool : FnScope nLpool ["_law_script"] (defScope sLpool) := ⟨rfl, rfl, rfl, by decide +kernel, rfl, by decide +kernel, by decide +kernel⟩
def spPool (K : PySem.W.Frag) : Sp := fun vs H Q _ => ∃ (a : Addr) (ns : List Int), vs = [.ref a] ∧ SqL K H a (ns.map V.int) ∧ ns.length ≤ 63 ∧
  ∀ (p : Addr) (S' H' : Hp), Pool S' H' p → Same H S' → Q (.ref p) H'
def absI (v : V) : Option V := match v with
  | .int i => some (.int (if i < 0 then -i else i))
  | _ => none
def grI (v : V) : Option V := match v with
  | .int i => if decide ((10 : Int) ^ (18 : Int).toNat ≤ i) = true then some (.int i) else none
  | _ => none
def smI (v : V) : Option V := match v with
  | .int i => if decide (i < (10 : Int) ^ (18 : Int).toNat) = true then some (.int (i % 1000003)) else none
  | _ => none
def isI (v : V) : Prop := ∃ i, v = .int i
theorem ints_of : ∀ (xs : List V), (∀ v ∈ xs, isI v) → ∃ ns : List Int, xs = ns.map V.int
  | [], _ => ⟨[], rfl⟩
  | x :: r, h => by
    obtain ⟨i, rfl⟩ := h x (by simp)
    obtain ⟨ns, rfl⟩ := ints_of r fun v hv => h v (by simp [hv])
    exact ⟨i :: ns, rfl⟩
theorem fm_ints (g : V → Option V) (hg : ∀ v w, g v = some w → isI w) (xs : List V) : ∃ ns : List Int, xs.filterMap g = ns.map V.int ∧ ns.length ≤ xs.length := by
  obtain ⟨ns, h⟩ := ints_of (xs.filterMap g) fun v hv => by
    obtain ⟨a, _, h⟩ := List.mem_filterMap.mp hv
    exact hg a v h
  refine ⟨ns, h, ?_⟩
  have := List.length_filterMap_le g xs
  rw [h, List.length_map] at this
  exact this
theorem absI_i (v w : V) (h : absI v = some w) : isI w := by
  cases v <;> simp [absI] at h
  exact ⟨_, h.symm⟩
theorem grI_i (v w : V) (h : grI v = some w) : isI w := by
  cases v <;> simp [grI] at h
  exact ⟨_, h.2.symm⟩
theorem smI_i (v w : V) (h : smI v = some w) : isI w := by
  cases v <;> simp [smI] at h
  exact ⟨_, h.2.symm⟩
theorem ok_pool (D : Df K mg "_law_pool" sLpool ["_law_script"] f fd) (T : Bl mg) : FnOk P w K mg base CX0 1 f fd ["_law_script"] (spPool K) := by
  refine D.fn.ok scLpool (fun vs H Q E h => ?_) (fun cdv A outer s H vs Q E hr h => ?_)
  · obtain ⟨a, ns, rfl, _⟩ := h
    rfl
  · obtain ⟨a, ns, rfl, hS, hlen, q⟩ := h
    refine ⟨_, (pss_cons (ps_setLc (i := 1) (own := [("_law_cell", 4)]) rfl scLpool.nd rfl rfl (sw_true rfl rfl rfl (by decide +kernel)) (pi_list (pe_slice sl_list (pv 0) po_none (po_some pe_int))) (blkOk_by (own := [("_law_cell", 4)]) (N := nLpool) (sc := defScope sLpool) (by decide +kernel)) (fun _ _ _ _ _ => (pg_name (i := 4) scLpool.nd rfl (Or.inl rfl))) (fun _ _ _ _ _ => pts_nil) (fun _ _ _ _ _ => (pe_callB call_abs (by rfl) T.abs (by decide +kernel) (pa_cons (pe_callTy call_int1 (by rfl) T.int (by decide +kernel) (pa_cons (pv 4) pa_nil)) pa_nil))))
      (pss_cons (ps_setLc (i := 2) (own := [("_law_cell", 4)]) rfl scLpool.nd rfl rfl (sw_true rfl rfl rfl (by decide +kernel)) (pi_list (pv 1)) (blkOk_by (own := [("_law_cell", 4)]) (N := nLpool) (sc := defScope sLpool) (by decide +kernel)) (fun _ _ _ _ _ => (pg_name (i := 4) scLpool.nd rfl (Or.inl rfl))) (fun _ _ _ _ _ => (pts_one (pt_cmpR op_ge (pv 4) (pe_op op_pow pe_int pe_int) (nomark _)))) (fun _ _ _ _ _ => (pv 4)))
      (pss_cons (ps_setLc (i := 3) (own := [("_law_cell", 4)]) rfl scLpool.nd rfl rfl (sw_true rfl rfl rfl (by decide +kernel)) (pi_list (pv 1)) (blkOk_by (own := [("_law_cell", 4)]) (N := nLpool) (sc := defScope sLpool) (by decide +kernel)) (fun _ _ _ _ _ => (pg_name (i := 4) scLpool.nd rfl (Or.inl rfl))) (fun _ _ _ _ _ => (pts_one (pt_cmpR op_lt (pv 4) (pe_op op_pow pe_int pe_int) (nomark _)))) (fun _ _ _ _ _ => (pe_op op_mod (pe_callTy call_int1 (by rfl) T.int (by decide +kernel) (pa_cons (pv 4) pa_nil)) pe_int)))
      (pss_one (ps_ret (pe_lst (pa_cons (pv 2) (pa_cons (pv 3) (pa_cons pe_int (pa_cons pe_int pa_nil)))))))))), ?_⟩
    refine ⟨_, rfl, 63, rfl, a, _, rfl, hS, fun l hl => ?_⟩
    refine ⟨l, rfl, ⟨_, SqL.of upd_same⟩, fun D1 hD1 => lc_pure absI (SqL.of upd_same) ?_ (fun _ => rfl) (fun x H2 hx hs Q hq => ?_) hD1 (fun H2 s2 h2 => ?_)⟩
    · rw [show (63 : Int) = ((63 : Nat) : Int) from rfl, cut_to]
      simp
      omega
    · obtain ⟨i, rfl⟩ : isI x := by
        rw [show (63 : Int) = ((63 : Nat) : Int) from rfl, cut_to, ← List.map_take] at hx
        obtain ⟨i, _, rfl⟩ := List.mem_map.mp hx
        exact ⟨i, rfl⟩
      exact iteT (B := Q none H2) ⟨_, rfl, .inl ⟨_, rfl, _, rfl, hq _ (Same.refl _)⟩⟩
    obtain ⟨n1, e1, l1⟩ := fm_ints absI absI_i (cutV (ns.map V.int) none (some 63))
    have l1' : n1.length ≤ 63 := by
      rw [show (63 : Int) = ((63 : Nat) : Int) from rfl, cut_to, List.length_take, List.length_map] at l1
      omega
    rw [e1] at h2
    have s02 : Same H H2 := (same_upd hl).trans s2
    refine ⟨_, rfl, D1, rfl, ⟨_, SqL.of h2⟩, fun D2 hD2 => lc_pure grI (SqL.of h2) (by rw [List.length_map]; omega) (fun _ => rfl) (fun x H3 hx hs Q hq => ?_) hD2 (fun H3 s3 h3 => ?_)⟩
    · obtain ⟨i, _, rfl⟩ := List.mem_map.mp hx
      refine ⟨_, rfl, _, _, rfl, rfl, ⟨by decide, by decide, by decide⟩, _, _, rfl, rfl, _, rfl, ?_⟩
      refine ite2 (fun c => ⟨_, rfl, ?_⟩) (fun c => ?_)
      · have := hq H3 (Same.refl _)
        rw [show grI (V.int i) = some (V.int i) from if_pos c] at this
        exact this
      · have := hq H3 (Same.refl _)
        rw [show grI (V.int i) = none from if_neg c] at this
        exact this
    obtain ⟨n2, e2, l2⟩ := fm_ints grI grI_i (n1.map V.int)
    rw [e2] at h3
    rw [List.length_map] at l2
    have h13 := s3 _ _ h2
    refine ⟨_, rfl, D1, rfl, ⟨_, SqL.of h13⟩, fun D3 hD3 => lc_pure smI (SqL.of h13) (by rw [List.length_map]; omega) (fun _ => rfl) (fun x H4 hx hs Q hq => ?_) hD3 (fun H4 s4 h4 => ?_)⟩
    · obtain ⟨i, _, rfl⟩ := List.mem_map.mp hx
      refine ⟨_, rfl, _, _, rfl, rfl, ⟨by decide, by decide, by decide⟩, _, _, rfl, rfl, _, rfl, ?_⟩
      refine ite2 (fun c => ⟨_, rfl, .inl ⟨_, rfl, _, _, rfl, rfl, by show (0 : Int) < 1000003; decide, ?_⟩⟩) (fun c => ?_)
      · have := hq H4 (Same.refl _)
        rw [show smI (V.int i) = some (V.int (i % 1000003)) from if_pos c] at this
        exact this
      · have := hq H4 (Same.refl _)
        rw [show smI (V.int i) = none from if_neg c] at this
        exact this
    obtain ⟨n3, e3, l3⟩ := fm_ints smI smI_i (n1.map V.int)
    rw [e3] at h4
    rw [List.length_map] at l3
    refine ⟨_, rfl, _, rfl, by show 4 ≤ sizeLine; decide, fun p hp => ?_⟩
    refine q p H4 _ ⟨same_upd hp, hp, D2, D3, 0, 0, n2, n3, upd_same, s4 _ _ h3, h4, by omega, by omega⟩ (s02.trans (s3.trans s4))
end
end WW

set_option Elab.async false
set_option linter.all false
set_option maxRecDepth 100000
set_option maxHeartbeats 4000000
namespace WW
open PySem PySem.Spec PyProof.Rows L2
section
variable {P : Program} {w : World} {K : PySem.W.Frag} {mg : Str → Option Value} {base : Heap} {f fA : Addr} {fd fdA : FuncData}
abbrev sLpick : Stmt := topS 21
abbrev nLpick : List Str := ["_law_pool_here", "_law_items"]
theorem scLpick : FnScope nLpick ["_law_pool_here", "_law_items"] (defScope sLpick) := ⟨rfl, rfl, rfl, by decide +kernel, rfl, by decide +kernel, by decide +kernel⟩
def spPick : Sp := fun vs H Q _ => ∃ (p a : Addr) (S : Hp) (xs : List V), vs = [.ref p, .ref a] ∧ Pool S H p ∧ H a = some (.lst xs) ∧ a ≠ p ∧ 0 < xs.length ∧ xs.length < 1000 ∧
  ∀ (i : Nat) (v : V) (S' H' : Hp), xs[i]? = some v → Pool S' H' p → Gr p S H S' H' → Q v H'
theorem ok_pick (D : Df K mg "_law_pick" sLpick ["_law_pool_here", "_law_items"] f fd) (DLdraw : Df K mg "_law_draw" sLdraw ["_law_pool_here", "_law_many"] fA fdA) (T : Bl mg) : FnOk P w K mg base CX0 2 f fd ["_law_pool_here", "_law_items"] spPick := by
  have GLdraw : FnOk P w K mg base CX0 1 fA fdA ["_law_pool_here", "_law_many"] spDraw := ok_draw DLdraw T
  refine D.fn.ok scLpick (fun vs H Q E h => ?_) (fun cdv A outer s H vs Q E hr h => ?_)
  · obtain ⟨p, a, S, xs, rfl, _⟩ := h
    rfl
  · obtain ⟨p, a, S, xs, rfl, P0, ha, nap, l0, l1, q⟩ := h
    refine ⟨_, (pss_one (ps_ret (pe_ix ix_list (pv 1) (pe_df DLdraw GLdraw (hr.mono (by decide)) (pa_cons (pv 0) (pa_cons (pe_callB call_len (by rfl) T.len (by decide +kernel) (pa_cons (pv 1) pa_nil)) pa_nil))) (fun _ _ => rfl)))), ?_⟩
    refine ⟨_, rfl, _, rfl, _, rfl, _, _, rfl, .inl ⟨_, SqL.of ha, rfl⟩, p, S, _, rfl, by omega, by omega, P0, fun d S1 H1 P1 g1 d0 d1 => ?_⟩
    have hd : d.toNat < xs.length := by omega
    refine ⟨a, xs, d, xs[d.toNat], rfl, rfl, SqL.of (g1.rs _ _ nap ha), ?_, q _ _ _ _ (List.getElem?_eq_getElem hd) P1 g1⟩
    exact at_of (j := d.toNat) (by omega) (List.getElem?_eq_getElem hd)

/-! ### names -/
def smallS : Str := "abcdefghijklmnopqrstuvwxyz"
def NameOk (z : Str) : Prop := 1 ≤ z.length ∧ z.length ≤ 10 ∧ ∀ c ∈ z.cps.toList, c ∈ smallS.cps.toList
theorem smallS_len : smallS.cps.toList.length = 26 := by decide +kernel
theorem smallS_nd : smallS.cps.toList.Nodup := by decide +kernel
theorem inV_strs (z : Str) : ∀ ts : List Str, inV (.str z) (ts.map V.str) = decide (z ∈ ts)
  | [] => by simp [inV]
  | t :: r => by
    have ih := inV_strs z r
    unfold inV at ih ⊢
    rw [List.map_cons, List.any_cons, ih]
    have e : eqV (.str t) (.str z) = decide (z = t) := by
      show (t == z) = decide (z = t)
      by_cases h : z = t
      · subst h
        simp
      · rw [decide_eq_false h]
        exact beq_eq_false_iff_ne.mpr (fun q => h q.symm)
    rw [e]
    simp [Bool.decide_or]
theorem strs_flat : ∀ ts : List Str, (ts.map V.str).all flatV = true
  | [] => rfl
  | _ :: r => by
    rw [List.map_cons, List.all_cons, strs_flat r]
    rfl
theorem pigeon {α : Type} [DecidableEq α] : ∀ (cs ts : List α), cs.Nodup → (∀ c ∈ cs, c ∈ ts) → cs.length ≤ ts.length
  | [], _, _, _ => Nat.zero_le _
  | c :: r, ts, nd, h => by
    have hc : c ∈ ts := h c (by simp)
    have ih := pigeon r (ts.erase c) (List.nodup_cons.mp nd).2 fun d hd => by
      have ne : d ≠ c := fun q => (List.nodup_cons.mp nd).1 (q ▸ hd)
      exact (List.mem_erase_of_ne ne).mpr (h d (by simp [hd]))
    rw [List.length_erase_of_mem hc] at ih
    have : 0 < ts.length := List.length_pos_of_mem hc
    simp
    omega
theorem join1 : ∀ cs : List Nat, TL.joinL [] (cs.map fun c => [c]) = cs
  | [] => rfl
  | [_] => rfl
  | c :: d :: r => by
    have ih := join1 (d :: r)
    show [c] ++ ([] ++ TL.joinL [] ((d :: r).map fun c => [c])) = _
    rw [ih]
    rfl
theorem joined (cs : List Nat) : Txt.join "" (cs.map fun c => (⟨#[c]⟩ : Str)) = ⟨cs.toArray⟩ := by
  have h : TL.tl (Txt.join "" (cs.map fun c => (⟨#[c]⟩ : Str))) = cs := by
    rw [TL.join_eq, TL.tl_join, List.map_map]
    exact join1 cs
  generalize Txt.join "" (cs.map fun c => (⟨#[c]⟩ : Str)) = z at h
  cases z with
  | mk a =>
    rw [← h]
theorem sum_ones : ∀ cs : List Nat, ((cs.map fun c => (⟨#[c]⟩ : Str)).map (·.length)).sum = cs.length
  | [] => rfl
  | c :: r => by
    rw [List.map_cons, List.map_cons, List.sum_cons, sum_ones r]
    show 1 + r.length = r.length + 1
    omega
def candF (z : Str) (ts : List Str) (v : V) : Option V := match v with
  | .str s => if (if true = true then !inV (.str (cutS z none (some 9) ++ s)) (ts.map V.str) else inV (.str (cutS z none (some 9) ++ s)) (ts.map V.str)) = true then some (.str (cutS z none (some 9) ++ s)) else none
  | _ => none
theorem app_cps (a b : Str) : (a ++ b).cps = a.cps ++ b.cps := rfl
theorem candF_eq (z : Str) (ts : List Str) (s : Str) : candF z ts (.str s) = if cutS z none (some 9) ++ s ∈ ts then none else some (.str (cutS z none (some 9) ++ s)) := by
  show (if (!inV _ _) = true then _ else _) = _
  rw [inV_strs]
  by_cases h : cutS z none (some 9) ++ s ∈ ts
  · rw [decide_eq_true h, if_pos h]
    rfl
  · rw [decide_eq_false h, if_neg h]
    rfl
theorem cand_name {z : Str} (hz : NameOk z) {c : Nat} (hc : c ∈ smallS.cps.toList) : NameOk (cutS z none (some 9) ++ ⟨#[c]⟩) := by
  have e : cutS z none (some 9) = ⟨(z.cps.toList.take 9).toArray⟩ := cutS_to z 9
  rw [e]
  refine ⟨?_, ?_, ?_⟩
  · show 1 ≤ (_ ++ _ : Array Nat).size
    rw [Array.size_append]
    show 1 ≤ _ + 1
    omega
  · show (_ ++ _ : Array Nat).size ≤ 10
    rw [Array.size_append]
    show (z.cps.toList.take 9).toArray.size + 1 ≤ 10
    rw [List.size_toArray, List.length_take]
    omega
  · intro d hd
    rw [app_cps] at hd
    simp at hd
    rcases hd with h | h
    · exact hz.2.2 d (by simpa using List.mem_of_mem_take h)
    · rw [h]
      exact hc
theorem cand {z : Str} {ts : List Str} (hz : NameOk z) (lt : ts.length < 26) : ∃ y r, (signs smallS).filterMap (candF z ts) = V.str y :: r ∧ NameOk y ∧ y ∉ ts := by
  cases q : (signs smallS).filterMap (candF z ts) with
  | nil =>
    exfalso
    have h1 : ∀ c ∈ smallS.cps.toList, cutS z none (some 9) ++ ⟨#[c]⟩ ∈ ts := by
      intro c hc
      have h := List.filterMap_eq_nil_iff.mp q (.str ⟨#[c]⟩) (List.mem_map.mpr ⟨c, hc, rfl⟩)
      rw [candF_eq] at h
      by_cases m : cutS z none (some 9) ++ ⟨#[c]⟩ ∈ ts
      · exact m
      · rw [if_neg m] at h
        cases h
    have h2 := pigeon (smallS.cps.toList.map fun c => cutS z none (some 9) ++ (⟨#[c]⟩ : Str)) ts (by
      refine List.pairwise_map.mpr (smallS_nd.imp fun {a b} hab e => hab ?_)
      have e1 : (cutS z none (some 9)).cps ++ #[a] = (cutS z none (some 9)).cps ++ #[b] := congrArg Str.cps e
      have e2 : (cutS z none (some 9)).cps.toList ++ [a] = (cutS z none (some 9)).cps.toList ++ [b] := by
        have := congrArg Array.toList e1
        simpa using this
      simpa using List.append_cancel_left e2) (fun y hy => by
      obtain ⟨c, hc, rfl⟩ := List.mem_map.mp hy
      exact h1 c hc)
    rw [List.length_map, smallS_len] at h2
    omega
  | cons v r =>
    have hv : v ∈ (signs smallS).filterMap (candF z ts) := by rw [q]; simp
    obtain ⟨u, hu, e⟩ := List.mem_filterMap.mp hv
    obtain ⟨c, hc, rfl⟩ := List.mem_map.mp hu
    rw [candF_eq] at e
    by_cases m : cutS z none (some 9) ++ ⟨#[c]⟩ ∈ ts
    · rw [if_pos m] at e
      cases e
    · rw [if_neg m] at e
      cases e
      exact ⟨_, r, rfl, cand_name hz hc, m⟩
abbrev sLname : Stmt := topS 22
abbrev nLname : List Str := ["_law_pool_here", "_law_taken", "_law_letters", "_law_size", "_law_name_here", "_law_k", "_law_letter"]
theorem scLname : FnScope nLname ["_law_pool_here", "_law_taken"] (defScope sLname) := ⟨rfl, rfl, rfl, by decide +kernel, rfl, by decide +kernel, by decide +kernel⟩
def spName : Sp := fun vs H Q _ => ∃ (p t : Addr) (S : Hp) (ts : List Str), vs = [.ref p, .ref t] ∧ Pool S H p ∧ H t = some (.lst (ts.map V.str)) ∧ t ≠ p ∧ ts.length < 26 ∧
  ∀ (z : Str) (S' H' : Hp), NameOk z → z ∉ ts → Pool S' H' p → Gr p S H S' H' → Q (.str z) H'
theorem sizes {d : Int} (h0 : 0 ≤ d) (h1 : d < 7) : ∃ n : Int, 1 ≤ n ∧ n ≤ 10 ∧ atI [V.int 1, V.int 1, V.int 2, V.int 3, V.int 4, V.int 6, V.int 10] d = some (V.int n) := by
  obtain rfl | rfl | rfl | rfl | rfl | rfl | rfl : d = 0 ∨ d = 1 ∨ d = 2 ∨ d = 3 ∨ d = 4 ∨ d = 5 ∨ d = 6 := by omega
  · exact ⟨1, by decide, by decide, rfl⟩
  · exact ⟨1, by decide, by decide, rfl⟩
  · exact ⟨2, by decide, by decide, rfl⟩
  · exact ⟨3, by decide, by decide, rfl⟩
  · exact ⟨4, by decide, by decide, rfl⟩
  · exact ⟨6, by decide, by decide, rfl⟩
  · exact ⟨10, by decide, by decide, rfl⟩
theorem ok_name (D : Df K mg "_law_name" sLname ["_law_pool_here", "_law_taken"] f fd) (DLdraw : Df K mg "_law_draw" sLdraw ["_law_pool_here", "_law_many"] fA fdA) (T : Bl mg) : FnOk P w K mg base CX0 2 f fd ["_law_pool_here", "_law_taken"] spName := by
  have GLdraw : FnOk P w K mg base CX0 1 fA fdA ["_law_pool_here", "_law_many"] spDraw := ok_draw DLdraw T
  refine D.fn.ok scLname (fun vs H Q E h => ?_) (fun cdv A outer s H vs Q E hr h => ?_)
  · obtain ⟨p, a, S, xs, rfl, _⟩ := h
    rfl
  · obtain ⟨p, t, S, ts, rfl, P0, ht, ntp, lt, q⟩ := h
    refine ⟨_, (pss_cons (ps_set (i := 2) scLname.nd rfl (Or.inr rfl) pe_str)
      (pss_cons (ps_set (i := 3) scLname.nd rfl (Or.inl rfl) (pe_ix ix_list (pe_lst (pa_cons pe_int (pa_cons pe_int (pa_cons pe_int (pa_cons pe_int (pa_cons pe_int (pa_cons pe_int (pa_cons pe_int pa_nil)))))))) (pe_df DLdraw GLdraw (hr.mono (by decide)) (pa_cons (pv 0) (pa_cons pe_int pa_nil))) (fun _ _ => rfl)))
      (pss_cons (ps_set (i := 4) scLname.nd rfl (Or.inr rfl) (pe_join pe_str (pe_lc (own := [("_law_k", 5)]) rfl scLname.nd (pi_range1 (by rfl) T.range (pa_cons (pv 3) pa_nil)) (blkOk_by (own := [("_law_k", 5)]) (N := nLname) (sc := defScope sLname) (by decide +kernel)) (fun _ _ _ _ _ => (pg_name (i := 5) scLname.nd rfl (Or.inl rfl))) (fun _ _ _ _ _ => pts_nil) (fun _ _ _ _ _ => (pe_ix ix_str (pv 2) (pe_df DLdraw GLdraw (hr.mono (by decide)) (pa_cons (pv 0) (pa_cons pe_int pa_nil))) (fun _ _ => rfl))))))
      (C8.pss_cut (ps_if (pt_cmpR op_in_seq (pv 4) (pv 1) (by rfl)) (pss_one (ps_set (i := 4) scLname.nd rfl (Or.inr rfl) (pe_ix ix_list (pe_lc (own := [("_law_letter", 6)]) rfl scLname.nd (pi_str (pv 2)) (blkOk_by (own := [("_law_letter", 6)]) (N := nLname) (sc := defScope sLname) (by decide +kernel)) (fun _ _ _ _ _ => (pg_name (i := 6) scLname.nd rfl (Or.inl rfl))) (fun _ _ _ _ _ => (pts_one (pt_cmpR (r := rIn K true) op_notIn_seq (pe_op op_add_str (pe_slice sl_str (pv 4) po_none (po_some pe_int)) (pv 6)) (pv 1) (by rfl)))) (fun _ _ _ _ _ => (pe_op op_add_str (pe_slice sl_str (pv 4) po_none (po_some pe_int)) (pv 6)))) pe_int (fun _ _ => rfl)))) pss_nil)
      (pss_one (ps_ret (pv 4))))))), ?_⟩
    refine ⟨by show 7 ≤ sizeLine; decide, fun l hl => ?_⟩
    have P1 := P0.new (o := .lst [V.int 1, V.int 1, V.int 2, V.int 3, V.int 4, V.int 6, V.int 10]) hl
    have g1 := (Gr.refl (p := p) (S := S) (H := H)).new (o := .lst [V.int 1, V.int 1, V.int 2, V.int 3, V.int 4, V.int 6, V.int 10]) P0.ss hl
    have nlp : l ≠ p := fun z => P0.has (by rw [← z]; exact hl)
    refine ⟨_, rfl, p, _, 7, rfl, by decide, by decide, P1, fun d S2 H2 P2 g2 d0 d1 => ?_⟩
    obtain ⟨n, n1, n2, hn⟩ := sizes d0 d1
    refine ⟨l, _, d, _, rfl, rfl, SqL.of (g2.rs _ _ nlp upd_same), hn, ?_⟩
    have g02 := g1.trans g2
    show tSeq _ _ _ [some (.ref p), some (.ref t), some (.str smallS), some (.int n), none, none, none] H2
    refine ⟨⟨_, rfl⟩, _, rfl, n, rfl, by omega, by omega, fun D1 hD1 => lc_range (lo := 0) (n := n.toNat) (fun i H' => ∃ (S' : Hp) (cs : List Nat), Pool S' H' p ∧ S' D1 = none ∧ Gr p S2 H2 S' H' ∧ H' D1 = some (.lst ((cs.map fun c => (⟨#[c]⟩ : Str)).map V.str)) ∧ cs.length = i ∧ ∀ c ∈ cs, c ∈ smallS.cps.toList) ?_ ?_ ?_⟩
    · refine ⟨S2, [], P2.put (P2.ss.free hD1) (fun z => P2.has (by rw [← z]; exact hD1)), P2.ss.free hD1, Gr.refl.put hD1, upd_same, rfl, fun c h => by cases h⟩
    · rintro i H' hi ⟨S', cs, P', sD, g', hD', lc, hc⟩
      have nDp : D1 ≠ p := fun z => P2.has (by rw [← z]; exact hD1)
      refine ⟨rfl, _, rfl, _, rfl, p, S', 26, rfl, by decide, by decide, P', fun e S3 H3 P3 g3 e0 e1 => ?_⟩
      have he : e.toNat < smallS.cps.toList.length := by rw [smallS_len]; omega
      refine ⟨smallS, e, smallS.cps.toList[e.toNat], rfl, rfl, by decide, at_ofG (j := e.toNat) (show e = ((e.toNat : Nat) : Int) by omega) (List.getElem?_eq_getElem he), ?_⟩
      obtain ⟨sD3, hD3⟩ := g3.loc nDp sD hD'
      refine ⟨_, hD3, ?_, S3, cs ++ [smallS.cps.toList[e.toNat]], P3.put sD3 nDp, sD3, (g'.trans g3).put hD1, ?_, ?_, ?_⟩
      · rw [List.length_map, List.length_map]
        exact small1000 (by omega)
      · rw [upd_same]
        simp
      · simp [lc]
      · intro c h
        rcases List.mem_append.mp h with h | h
        · exact hc c h
        · rw [List.mem_singleton.mp h]
          exact List.getElem_mem _
    · rintro H' ⟨S3, cs, P3, sD, g3, hD3, lc, hc⟩
      refine ⟨_, _, _, rfl, rfl, .inl (SqL.of hD3), ?_, ?_⟩
      · rw [sum_ones, List.length_map]
        show cs.length + cs.length * 0 ≤ _
        omega
      have nDp : D1 ≠ p := fun z => P2.has (by rw [← z]; exact hD1)
      have g03 : Gr p S H S3 H' := g02.trans g3
      have ht3 := g03.rs _ _ ntp ht
      have hz : NameOk ⟨cs.toArray⟩ := ⟨by show 1 ≤ cs.toArray.size; simp; omega, by show cs.toArray.size ≤ 10; simp; omega, by simpa using hc⟩
      rw [joined]
      show C8.tCut _ _ _ [some (.ref p), some (.ref t), some (.str smallS), some (.int n), some (.str ⟨cs.toArray⟩), none, none] H'
      generalize (⟨cs.toArray⟩ : Str) = z at hz ⊢
      refine ⟨fun σ H4 => ∃ (z : Str) (S4 : Hp), σ = [some (.ref p), some (.ref t), some (.str smallS), some (.int n), some (.str z), none, none] ∧ NameOk z ∧ z ∉ ts ∧ Pool S4 H4 p ∧ Gr p S H S4 H4, ?_, ?_⟩
      · refine ⟨_, rfl, _, rfl, t, _, rfl, .inl (SqL.of ht3), rfl, strs_flat ts, _, rfl, ite2 (fun c => ?_) (fun c => ?_)⟩
        · obtain ⟨y, r, ey, hy, ny⟩ := cand hz lt
          have hz10 := hz.2.1
          refine ⟨_, rfl, smallS, rfl, fun D2 hD2 => lc_pureS (candF z ts) (by decide) (fun _ => rfl) (fun v H5 hv s5 Q5 q5 => ?_) hD2 (fun H5 s5 h5 => ?_)⟩
          · obtain ⟨c, hc, rfl⟩ := List.mem_map.mp hv
            have l9 : (cutS z none (some 9)).length + (⟨#[c]⟩ : Str).length ≤ sizeLine := by
              have h := (cand_name hz hc).2.1
              have e : (cutS z none (some 9) ++ (⟨#[c]⟩ : Str)).length = (cutS z none (some 9)).length + (⟨#[c]⟩ : Str).length := Array.size_append
              rw [e] at h
              exact Nat.le_trans h (by decide)
            have hzl : z.length ≤ sizeLine := Nat.le_trans hz10 (by decide)
            refine ⟨_, rfl, 9, rfl, z, rfl, hzl, _, rfl, _, _, rfl, rfl, l9, _, rfl, t, _, rfl, .inl (SqL.of (s5 _ _ ht3)), rfl, strs_flat ts, _, rfl, ite2 (fun c5 => ?_) (fun c5 => ?_)⟩
            · refine ⟨_, rfl, 9, rfl, z, rfl, hzl, _, rfl, _, _, rfl, rfl, l9, ?_⟩
              have := q5 H5 (Same.refl _)
              rw [show candF z ts (V.str ⟨#[c]⟩) = some (.str (cutS z none (some 9) ++ ⟨#[c]⟩)) from if_pos c5] at this
              exact this
            · have := q5 H5 (Same.refl _)
              rw [show candF z ts (V.str ⟨#[c]⟩) = none from if_neg c5] at this
              exact this
          · rw [ey] at h5
            refine ⟨D2, _, 0, _, rfl, rfl, SqL.of h5, atI_nat (j := 0) rfl, y, S3, rfl, hy, ny, P3.same s5, g03.same s5⟩
        · refine ⟨z, S3, rfl, hz, ?_, P3, g03⟩
          intro hm
          apply c
          rw [inV_strs]
          exact decide_eq_true hm
      · rintro σ H4 ⟨z, S4, rfl, hz, hn, P4, g4⟩
        exact ⟨_, rfl, q z S4 H4 hz hn P4 g4⟩

abbrev sLnames : Stmt := topS 23
abbrev nLnames : List Str := ["_law_pool_here", "_law_many", "_law_names_here", "_law_k"]
theorem scLnames : FnScope nLnames ["_law_pool_here", "_law_many"] (defScope sLnames) := ⟨rfl, rfl, rfl, by decide +kernel, rfl, by decide +kernel, by decide +kernel⟩
def spNames : Sp := fun vs H Q _ => ∃ (p : Addr) (n : Int) (S : Hp), vs = [.ref p, .int n] ∧ Pool S H p ∧ 0 ≤ n ∧ n ≤ 26 ∧
  ∀ (a : Addr) (zs : List Str) (S' H' : Hp), Pool S' H' p → Gr p S H S' H' → S' a = some (.lst (zs.map V.str)) → (zs.length : Int) = n → (∀ z ∈ zs, NameOk z) → zs.Nodup → Q (.ref a) H'
theorem ok_names {fB : Addr} {fdB : FuncData} (D : Df K mg "_law_names" sLnames ["_law_pool_here", "_law_many"] f fd) (DLname : Df K mg "_law_name" sLname ["_law_pool_here", "_law_taken"] fB fdB) (DLdraw : Df K mg "_law_draw" sLdraw ["_law_pool_here", "_law_many"] fA fdA) (T : Bl mg) : FnOk P w K mg base CX0 3 f fd ["_law_pool_here", "_law_many"] spNames := by
  have GLname : FnOk P w K mg base CX0 2 fB fdB ["_law_pool_here", "_law_taken"] spName := ok_name DLname DLdraw T
  refine D.fn.ok scLnames (fun vs H Q E h => ?_) (fun cdv A outer s H vs Q E hr h => ?_)
  · obtain ⟨p, n, S, rfl, _⟩ := h
    rfl
  · obtain ⟨p, n, S, rfl, P0, n0, n1, q⟩ := h
    refine ⟨_, (pss_cons (ps_set (i := 2) scLnames.nd rfl (Or.inl rfl) (pe_lst pa_nil))
      (pss_cons (ps_for PassesOwn.never rfl (pi_range1 (by rfl) T.range (pa_cons (pv 1) pa_nil)) (pg_name (i := 3) scLnames.nd rfl (Or.inl rfl)) (pss_one (ps_expr (pe_bm PySem.F.plainAttrs_list PySem.F.slot_list_append PySem.F.type_list_append mt_append (pv 2) (pa_cons (pe_df DLname GLname (hr.mono (by decide)) (pa_cons (pv 0) (pa_cons (pv 2) pa_nil))) pa_nil)))))
      (pss_one (ps_ret (pv 2))))), ?_⟩
    refine ⟨Nat.zero_le _, fun l hl => ?_⟩
    have nlp : l ≠ p := fun z => P0.has (by rw [← z]; exact hl)
    refine ⟨_, rfl, n, rfl, by omega, by omega, for_range (lo := 0) (n := n.toNat) (fun i σ H' => ∃ (v : Option V) (S' : Hp) (zs : List Str), σ = [some (.ref p), some (.int n), some (.ref l), v] ∧ Pool S' H' p ∧ S' l = none ∧ Gr p S H S' H' ∧ H' l = some (.lst (zs.map V.str)) ∧ zs.length = i ∧ (∀ z ∈ zs, NameOk z) ∧ zs.Nodup) ?_ ?_ ?_⟩
    · exact ⟨none, S, [], rfl, P0.put (P0.ss.free hl) nlp, P0.ss.free hl, Gr.refl.put hl, upd_same, rfl, (fun z h => by cases h), List.nodup_nil⟩
    · rintro i σ H' hi ⟨v, S', zs, rfl, P', sl, g', hl', lz, hz, nd⟩
      refine ⟨_, rfl, .inl ⟨rfl, _, SqL.of hl'⟩, _, rfl, _, rfl, p, l, S', zs, rfl, P', hl', nlp, by omega, fun z S2 H2 hn hm P2 g2 => ?_⟩
      obtain ⟨sl2, hl2⟩ := g2.loc nlp sl hl'
      refine ⟨l, _, _, rfl, rfl, hl2, ?_, _, S2, zs ++ [z], rfl, P2.put sl2 nlp, sl2, (g'.trans g2).put hl, ?_, ?_, ?_, ?_⟩
      · rw [List.length_map]
        exact small1000 (by omega)
      · rw [upd_same]
        simp
      · simp [lz]
      · intro y hy
        rcases List.mem_append.mp hy with h | h
        · exact hz y h
        · rw [List.mem_singleton.mp h]
          exact hn
      · rw [List.nodup_append]
        refine ⟨nd, by simp, ?_⟩
        intro a ha b hb e
        rw [List.mem_singleton.mp hb] at e
        exact hm (e ▸ ha)
    · rintro σ H' ⟨v, S', zs, rfl, P', sl, g', hl', lz, hz, nd⟩
      exact ⟨_, rfl, q l zs _ H' (P'.fix hl' sl nlp) (g'.fix hl sl) upd_same (by omega) hz nd⟩
end
end WW

set_option Elab.async false
set_option linter.all false
set_option maxRecDepth 100000
set_option maxHeartbeats 4000000
namespace WW
open PySem PySem.Spec PyProof.Rows L2
open Sem (wp)
open AutoSeq1 (wpAny_loadPart')
theorem meets_enumerate_newT (l : Addr) (items : Array Value) (n : Nat) (dct : Option Addr) (sl : Array (Option Value)) :
    Meets (Builtin.«enumerate.__new__» ⟨[.type "enumerate", .ref l], []⟩) (fun _ R s => s.heap.get? l = some { cls := .type "tuple", dict := dct, data := .seq items n, slots := sl } ∧
      R (.ok (.ret (.ref (s.heap.push { cls := .type "tuple_iterator", data := .fields #[.ref l, .int 0 0] }).objs.size)))
        { s with heap := (s.heap.push { cls := .type "tuple_iterator", data := .fields #[.ref l, .int 0 0] }).push { cls := .type "enumerate", data := .fields #[.none, .bool false, .ref s.heap.objs.size, rawInt 0, .none, .none] } }) :=
  .of_wp fun prog w A R s h => by
    obtain ⟨hp, g, d, tk, os⟩ := s; obtain ⟨hl, h⟩ := h
    have hsub := sub_enumerate
    have hL : Heap.IsTuple (Shared.heap ⟨hp, g, d, tk, os⟩) l items := ⟨_, hl, rfl, n, rfl⟩
    wp_walk using wpAny_loadPart' hl
    refine wpAny_stack_any fun st => wpAny_pure ?_
    split
    · rename_i c _ _ _ _ _
      cases (c == Value.type "enumerate")
      · wp_walk using wpAny_loadPart' hl, wpAny_pyIter_tuple hL
        exact ⟨_, rfl, h⟩
      · wp_walk using wpAny_loadPart' hl, wpAny_pyIter_tuple hL
        exact ⟨_, rfl, h⟩
    · wp_walk using wpAny_loadPart' hl, wpAny_pyIter_tuple hL
      exact ⟨_, rfl, h⟩
theorem call_enumerate_tuple {prog : Program} {w : World} {A : Around} {E : Value → Shared → Prop} {s : Shared} {l : Addr} {items : Array Value} {Q : Value → Shared → Prop} (hL : s.heap.IsTuple l items)
    (h : ∀ h', IsEnum h' (s.heap.objs.size + 1) s.heap.objs.size 0 .none → h'.IsTupleIter s.heap.objs.size l 0 → h'.objs.size = s.heap.objs.size + 2 →
      (∀ b o, s.heap.get? b = some o → h'.get? b = some o) → Q (.ref (s.heap.objs.size + 1)) { s with heap := h' }) :
    wpAny (model prog w) A (call (.type "enumerate") [.ref l]) Q E s := by
  obtain ⟨⟨c, dct, dt, sl⟩, hl, hc, n, hd⟩ := hL
  replace hc : c = .type "tuple" := hc
  replace hd : dt = .seq items n := hd
  subst hc hd
  refine callType_new F.called_enumerate (by decide) (F.typeCall_enumerate_1 _) (F.newCall_enumerate_1 _) (fun obj => F.args_object_init_2 obj _) F.entry_enumerate_new
    (meets_enumerate_newT l items n dct sl) ⟨hl, ?_⟩
  have hz : (s.heap.push { cls := .type "tuple_iterator", data := .fields #[.ref l, .int 0 0] }).objs.size = s.heap.objs.size + 1 := Heap.size_push ..
  show _ ∧ _
  rw [hz]
  have he : IsEnum ((s.heap.push { cls := .type "tuple_iterator", data := .fields #[.ref l, .int 0 0] }).push
      { cls := .type "enumerate", data := .fields #[.none, .bool false, .ref s.heap.objs.size, rawInt 0, .none, .none] }) (s.heap.objs.size + 1) s.heap.objs.size 0 .none := by
    have := Heap.get?_push_size (s.heap.push { cls := .type "tuple_iterator", data := .fields #[.ref l, .int 0 0] })
      (o := { cls := .type "enumerate", data := .fields #[.none, .bool false, .ref s.heap.objs.size, rawInt 0, .none, .none] }) rfl
    rw [hz] at this; exact this
  refine ⟨⟨_, he, rfl⟩, h _ he ⟨_, Heap.get?_push_of_some _ (Heap.get?_push_size _ rfl), rfl, rfl⟩ (by rw [Heap.size_push, hz]) fun b o x => Heap.get?_push_of_some _ (Heap.get?_push_of_some _ x)⟩
/-- the tuple at a, each item in a new pair -/
def Itet (K : PySem.W.Frag) (a : Addr) : It :=
  ⟨fun i H => ∃ (xs : List V) (x : V), SqT K H a xs ∧ xs[i]? = some x, fun i H v H' => ∃ T x, v = .ref T ∧ H T = none ∧ H' = upd H T (.tup [.int (i : Nat), x]) ∧ ∀ xs, SqT K H a xs → xs[i]? = some x, fun i H => ∃ xs : List V, SqT K H a xs ∧ i = xs.length⟩
theorem turn_enumT {P : Program} {w : World} {K : PySem.W.Frag} {elts : List Expr} {kk : Nat} {tpos : Pos} (a e it : Addr) :
    Turn P w K (.Tuple elts kk tpos) (Itet K a) [e, it] e (fun i h => (∃ old, IsEnum h e it ((i : Nat) : Int) old) ∧ h.IsTupleIter it a i ∧ e ≠ it ∧ a ≠ it ∧ a ≠ e) where
  mem := by simp
  obj := fun i h st b hb => by
    obtain ⟨⟨old, he⟩, ⟨o, ho, hc, hd⟩, _⟩ := st
    have e' : b = e ∨ b = it := by simpa using hb
    rcases e' with z | z
    · rw [z]; exact ⟨_, he, fun v q => nomatch q⟩
    · rw [z]; exact ⟨o, ho, fun v q => by rw [hd] at q; cases q⟩
  keep := fun i h h' st k => let ⟨⟨old, he⟩, hi, hne⟩ := st; ⟨⟨old, k e (by simp) _ he⟩, hi.at fun o q => k it (by simp) o q, hne⟩
  item := by
    intro X hP hw hK hc i pins s σ H E I hf st hg
    subst hP hw hK
    obtain ⟨⟨old, he⟩, hit, hne, hai, hae⟩ := st
    obtain ⟨xs, x, hq, hx⟩ := hg
    obtain ⟨its, rv, p, hz⟩ := I.tuple hq
    obtain ⟨u, hu, ru⟩ := rv.get hx
    have hel : e < s.heap.objs.size := Heap.lt_size he
    have hil : it < s.heap.objs.size := by obtain ⟨_, q, _⟩ := hit; exact Heap.lt_size q
    have pt : s.heap.IsTuple a its.toArray := p
    refine wpAny_pyNext_enum_itemD (Draws.tuple (A := X.A.in1) (show X.A.in1.handled = none from I.ok.hd hc) it a hai its.toArray) he ⟨hit, pt⟩ (by
      have := (List.getElem?_eq_some_iff.mp hu).1
      simpa using this) hne (by simp [hne, Ne.symm hae]) fun u' h' tk hu' ho hst hT hsz hk => ?_
    have eu : u' = u := by
      have e1 : its.toArray[i]? = some u := by simpa using hu
      rw [e1] at hu'
      exact (Option.some.inj hu').symm
    subst eu
    refine ⟨_, rfl, wpAny_letOwnedTupleGo_enum (s := { s with heap := h', toks := tk + 1 }) ho fun h'' he' sb => ?_⟩
    have hT2 : h''.get? s.heap.objs.size = some { cls := .type "tuple", data := .seq #[.int i tk, u'] } := (sb.2 _ (Nat.ne_of_gt hel)).trans hT
    have new : ObjOk X.prog X.w (upd H s.heap.objs.size (.tup [.int (i : Nat), x])) h'' s.heap.objs.size (.tup [.int (i : Nat), x]) :=
      ⟨by show 2 ≤ sizeLine; decide, [.int i tk, u'], .cons ⟨_, rfl⟩ (.cons ru .nil), ⟨_, hT2, rfl, _, rfl⟩⟩
    have I1 : Inv X pins σ (upd H s.heap.objs.size (.tup [.int (i : Nat), x])) { s with heap := h'', toks := tk + 1 } :=
      I.turnedNew (ch := [e, it]) (fun b ob hb q => (sb.2 b (fun z => hb (by simp [z]))).trans (hk b ob (fun z => hb (by simp [z])) (fun z => hb (by simp [z])) q)) hf (Nat.le_refl _) new
    refine ⟨.ref s.heap.objs.size, _, I1, rfl, ⟨_, x, rfl, I.hok.fresh (Nat.le_refl _), rfl, fun ys hy => by rw [I.tuple_inj hy hq]; exact hx⟩, ⟨⟨u', ?_⟩, hst.1.at fun o q => (sb.2 it (Ne.symm hne)).trans q, hne, hai, hae⟩, fun b hb => ?_⟩
    · have e1 : ((i + 1 : Nat) : Int) = (i : Int) + 1 := by omega
      rw [e1]; exact he'
    · have hb' : b < s.heap.objs.size := by
        have e' : b = e ∨ b = it := by simpa using hb
        rcases e' with z | z
        · rw [z]; exact hel
        · rw [z]; exact hil
      rw [upd_ne (Nat.ne_of_lt hb')]
      exact (hf b hb).1
  done := by
    intro X hP hw hK hc i pins s σ H E I hf st hg
    subst hP hw hK
    obtain ⟨⟨old, he⟩, hit, hne, hai, hae⟩ := st
    obtain ⟨xs, hq, hx⟩ := hg
    obtain ⟨its, rv, p, hz⟩ := I.tuple hq
    obtain ⟨f0, f1, f2, f3, f4, f5⟩ := hf it (by simp)
    have hl := rv.length
    have pt : s.heap.IsTuple a its.toArray := p
    have ei : i = its.toArray.size := by rw [List.size_toArray, ← hl]; exact hx
    exact wpAny_pyNext_enum_endD (Draws.tuple (A := X.A.in1) (show X.A.in1.handled = none from I.ok.hd hc) it a hai its.toArray) he ⟨ei ▸ hit, pt⟩ fun h' eb => ⟨rfl, I.turned (t' := s.toks) (fun b o hb q => eb b o hb q) f0 f1 f3 f4 f5⟩
  self := fun A i s Q E st h => let ⟨⟨_, he⟩, _⟩ := st; wpAny_pyIter_enum he h
/-- enumerate of a list or of a tuple -/
def iEnumS (K : PySem.W.Frag) (ta : TA) : TI := fun σ H R => ta σ H fun vs H1 => (∃ a xs, vs = [.ref a] ∧ SqL K H1 a xs ∧ R (Ite K a) H1) ∨ (∃ a xs, vs = [.ref a] ∧ SqT K H1 a xs ∧ R (Itet K a) H1)
theorem pi_enumD {X : Cx} {e : Expr} {ta : TA} {p pos tpos : Pos} {elts : List Expr} {kk : Nat} (hg : Gl X "enumerate") (hm : X.mg "enumerate" = none) (ha : PA X [e] ta) (hs : starEach [e] X.env = [(false, eval e X.env)] := by rfl) :
    PI X (.Tuple elts kk tpos) (.Call (.Name "enumerate" p) [e] [] pos) (iEnumS X.K ta) := by
  refine ⟨fun pins s σ H R I h => ?_⟩
  refine Call_ (ld_blt I hg hm boot_enumerate (PyProof.Rows.callWith_type1 (thn (ha.run pos pins s σ H _ I h) fun us s1 ⟨vs, H1, I1, r1, q1⟩ => ?_) hs rfl))
  rcases q1 with ⟨a, xs, ex, hq, q⟩ | ⟨a, xs, ex, hq, q⟩
  · subst ex
    cases r1 with
    | cons r rr =>
      cases rr
      cases r
      obtain ⟨its, rv, p', hz⟩ := I1.list hq
      refine call_enumerate_list p'.isList fun h' he hit hsz hk => wpAny_pyIter_enum he ?_
      have I2 : Inv X pins σ H1 { s1 with heap := h' } := I1.kept (t' := s1.toks) hk
      refine ⟨s1.heap.objs.size + 1, [s1.heap.objs.size + 1, s1.heap.objs.size], _, _, H1, rfl, I2, turn_enum a (s1.heap.objs.size + 1) s1.heap.objs.size, ⟨⟨.none, he⟩, hit, Nat.succ_ne_self _⟩, fun b hb => ?_, q⟩
      have e' : b = s1.heap.objs.size + 1 ∨ b = s1.heap.objs.size := by simpa using hb
      have hle : s1.heap.objs.size ≤ b := by
        rcases e' with z | z
        · rw [z]; exact Nat.le_add_right _ _
        · rw [z]; exact Nat.le_refl _
      exact I1.fpOk hle (I1.hok.fresh hle)
  · subst ex
    cases r1 with
    | cons r rr =>
      cases rr
      cases r
      obtain ⟨its, rv, p', hz⟩ := I1.tuple hq
      have pt : s1.heap.IsTuple a its.toArray := p'
      have hal : a < s1.heap.objs.size := p'.lt
      refine call_enumerate_tuple pt fun h' he hit hsz hk => wpAny_pyIter_enum he ?_
      have I2 : Inv X pins σ H1 { s1 with heap := h' } := I1.kept (t' := s1.toks) hk
      refine ⟨s1.heap.objs.size + 1, [s1.heap.objs.size + 1, s1.heap.objs.size], _, _, H1, rfl, I2, turn_enumT a (s1.heap.objs.size + 1) s1.heap.objs.size, ⟨⟨.none, he⟩, hit, Nat.succ_ne_self _, Nat.ne_of_lt hal, Nat.ne_of_lt (Nat.lt_succ_of_lt hal)⟩, fun b hb => ?_, q⟩
      have e' : b = s1.heap.objs.size + 1 ∨ b = s1.heap.objs.size := by simpa using hb
      have hle : s1.heap.objs.size ≤ b := by
        rcases e' with z | z
        · rw [z]; exact Nat.le_add_right _ _
        · rw [z]; exact Nat.le_refl _
      exact I1.fpOk hle (I1.hok.fresh hle)
end WW

set_option Elab.async false
set_option linter.all false
set_option maxRecDepth 100000
set_option maxHeartbeats 4000000
namespace WW
open PySem PySem.Spec PyProof.Rows L2
/-! ### sets whose members are keys of one kind, with what their walk wants -/
theorem paired_perm {α β : Type} {R : α → β → Prop} {l l' : List β} (p : l'.Perm l) : ∀ {ls : List α}, Paired R ls l → ∃ ls', ls'.Perm ls ∧ Paired R ls' l' := by
  induction p with
  | nil => intro ls h; exact ⟨ls, List.Perm.refl _, h⟩
  | cons x _ ih =>
    intro ls h
    cases h with
    | cons r t =>
      obtain ⟨ls', p', h'⟩ := ih t
      exact ⟨_ :: ls', p'.cons _, .cons r h'⟩
  | swap x y l =>
    intro ls h
    cases h with
    | cons r t =>
      cases t with
      | cons r2 t2 => exact ⟨_, List.Perm.swap _ _ _, .cons r2 (.cons r t2)⟩
  | trans _ _ ih1 ih2 =>
    intro ls h
    obtain ⟨l2, p2, h2⟩ := ih2 h
    obtain ⟨l1, p1, h1⟩ := ih1 h2
    exact ⟨l1, p1.trans p2, h1⟩
theorem paired_snoc {α β : Type} {R : α → β → Prop} : ∀ {ls : List α} {l : List β} {x : α} {y : β}, Paired R ls l → R x y → Paired R (ls ++ [x]) (l ++ [y])
  | _, _, _, _, .nil, r => .cons r .nil
  | _, _, _, _, .cons q t, r => .cons q (paired_snoc t r)
theorem paired_mem {α β : Type} {R : α → β → Prop} : ∀ {ls : List α} {l : List β}, Paired R ls l → ∀ y ∈ l, ∃ x ∈ ls, R x y
  | _, _, .nil, _, h => by cases h
  | _, _, .cons q t, y, h => by
    rcases List.mem_cons.mp h with h | h
    · subst h
      exact ⟨_, by simp, q⟩
    · obtain ⟨x, hx, r⟩ := paired_mem t y h
      exact ⟨x, by simp [hx], r⟩
theorem paired_memL {α β : Type} {R : α → β → Prop} : ∀ {ls : List α} {l : List β}, Paired R ls l → ∀ x ∈ ls, ∃ y ∈ l, R x y
  | _, _, .nil, _, h => by cases h
  | _, _, .cons q t, y, h => by
    rcases List.mem_cons.mp h with h | h
    · subst h
      exact ⟨_, by simp, q⟩
    · obtain ⟨x, hx, r⟩ := paired_memL t y h
      exact ⟨x, by simp [hx], r⟩
def insG {κ : Type} [DecidableEq κ] (k : κ) (ks : List κ) : List κ := if k ∈ ks then ks else k :: ks
section
variable {P : Program} {w : World} {κ : Type} [DecidableEq κ] (knd : PySem.KeyKind P w κ)
def Ent (k : κ) (e : Int × Value) : Prop := knd.is k e.2 = true ∧ e.1 = knd.hash k ∧ e.2.scannable = true
/-- what is told of a set's content and table -/
def Tab (w : World) (es : Array (Int × Value)) (t : SetTable) (ks : List κ) : Prop :=
  (∃ ls, Paired (Ent knd) ls es.toList ∧ ls.Perm ks) ∧ ks.Nodup ∧ es.size < scanBound ∧ t.fits es.size = true ∧ Ris t.place.toList ∧ (w.params.followText "set-order" = true ∨ t.led = true)
def SetG (h : Heap) (a : Addr) (ks : List κ) : Prop := ∃ o es ep t, h.get? a = some o ∧ o.ExactSet ∧ o.data = .set es ep t ∧ Tab knd w es t ks
variable {knd}
theorem Tab.elems {es : Array (Int × Value)} {t : SetTable} {ks : List κ} (T : Tab knd w es t ks) : ElemsOf knd es.toList := fun e he => by
  obtain ⟨⟨ls, hp, _⟩, _⟩ := T
  obtain ⟨k, _, h1, h2, h3⟩ := paired_mem hp e he
  exact ⟨⟨k, h1, h2⟩, h3⟩
theorem Tab.mem {es : Array (Int × Value)} {t : SetTable} {ks : List κ} (T : Tab knd w es t ks) (k : κ) : (∃ e ∈ es.toList, knd.is k e.2 = true) ↔ k ∈ ks := by
  obtain ⟨⟨ls, hp, hpm⟩, _⟩ := T
  constructor
  · rintro ⟨e, he, h⟩
    obtain ⟨k', hk', h1, _⟩ := paired_mem hp e he
    rw [knd.inj _ _ _ h h1]
    exact hpm.mem_iff.mp hk'
  · intro h
    obtain ⟨e, he, h1, _⟩ := paired_memL hp k (hpm.mem_iff.mpr h)
    exact ⟨e, he, h1⟩
theorem Tab.size {es : Array (Int × Value)} {t : SetTable} {ks : List κ} (T : Tab knd w es t ks) : es.size = ks.length := by
  obtain ⟨⟨ls, hp, hpm⟩, _⟩ := T
  rw [← Array.length_toList, ← Paired.length hp, hpm.length_eq]
theorem SetG.setOf {h : Heap} {a : Addr} {ks : List κ} (R : SetG knd h a ks) : h.SetOf knd a (fun k => decide (k ∈ ks)) ks.length := by
  obtain ⟨o, es, ep, t, ho, hx, hd, T⟩ := R
  refine ⟨o, es, ep, t, ho, hx, hd, T.elems, fun k => ?_, T.2.2.1, T.2.2.2.1, T.size⟩
  rw [decide_eq_true_iff]
  exact (T.mem k).symm
theorem SetG.at {h h' : Heap} {a : Addr} {ks : List κ} (R : SetG knd h a ks) (k : ∀ o, h.get? a = some o → h'.get? a = some o) : SetG knd h' a ks := by
  obtain ⟨o, es, ep, t, ho, r⟩ := R
  exact ⟨o, es, ep, t, k o ho, r⟩
theorem SetG.fresh {h : Heap} : SetG knd (h.push { cls := .type "set", dict := none, data := .set #[] 0 (.fresh 0 0 (!w.params.followText "set-order")) }) h.objs.size [] := by
  refine ⟨_, #[], 0, _, Heap.get?_push_size _ rfl, ⟨rfl, rfl, rfl⟩, rfl, ⟨[], .nil, .nil⟩, List.nodup_nil, by decide, rfl, List.Pairwise.nil, ?_⟩
  cases q : w.params.followText "set-order" with
  | false => exact .inr (by show (!false) = true; rfl)
  | true => exact .inl rfl
end
section
variable {P : Program} {w : World} {κ : Type} [DecidableEq κ] {knd : PySem.KeyKind P w κ} {A : Around} {E : Value → Shared → Prop} {s : Shared} {a : Addr} {ks : List κ}
theorem put_there {h : Heap} {o : Obj} {es es' : Array (Int × Value)} {ep : Nat} {t t' : SetTable} (ho : h.get? a = some o) (hd : o.data = .set es ep t) :
    (h.update a (Obj.putSet es' t')).get? a = some { o with data := .set es' (ep + 1) t' } := by
  have e := Heap.get?_update_self (Obj.putSet es' t') ho (by rw [putSet_of es' t' hd]; rfl)
  rwa [putSet_of es' t' hd] at e
/-- what stands behind the new item's laying -/
theorem laid_tail {g : Bool → Sem Unit} (hg : ∀ (b : Bool) (s1 : Shared) (Q : Unit → Shared → Prop), Q () s1 → wpAny (model P w) A (g b) Q E s1) {o : Obj} {es es1 : Array (Int × Value)} {ep : Nat} {t t2 : SetTable} {ks' : List κ} {dm : Bool} {R : Option Bool → Shared → Prop} (ho : s.heap.get? a = some o) (hx : o.ExactSet) (hd : o.data = .set es ep t)
    (T : Tab knd w es1 t2 ks') (hR : ∀ h', Heap.SameBut a s.heap h' → SetG knd h' a ks' → R (some true) { s with heap := h' }) :
    wpAny (model P w) A (do
      storeSet a es1 t2
      if (!dm && t2.tooFull) = true then do
        g (relayAll t2 es1 (SetTable.grown es1.size)).2.2
        storeSet a (relayAll t2 es1 (SetTable.grown es1.size)).1 (relayAll t2 es1 (SetTable.grown es1.size)).2.1
        pure (some true)
      else pure (some true)) R E s := by
  refine wpAny_bind (wpAny_storeSet_of ho hd ?_ (fits_of_scanBound T.2.2.1))
  have o1 := put_there (es' := es1) (t' := t2) ho hd
  have b1 := Heap.SameBut.update s.heap a (Obj.putSet es1 t2)
  split
  · obtain ⟨⟨ls, hp, hpm⟩, nd, hb, hf, hr, hl⟩ := T
    have q1 := relayAll_perm t2 es1 (SetTable.grown es1.size)
    have q2 := relayAll_fits t2 es1 (SetTable.grown es1.size)
    have q3 := relayAll_ris t2 es1 (SetTable.grown es1.size)
    have q4 := relayAll_led t2 es1 (SetTable.grown es1.size)
    generalize relayAll t2 es1 (SetTable.grown es1.size) = z at q1 q2 q3 q4 ⊢
    obtain ⟨es2, t3, gv⟩ := z
    dsimp only at q1 q2 q3 q4 ⊢
    have sz : es2.size = es1.size := by rw [← Array.length_toList, ← Array.length_toList, q1.length_eq]
    refine wpAny_bind (hg _ _ _ (wpAny_bind (wpAny_storeSet_of o1 rfl (wpAny_pure (hR _ (b1.trans (Heap.SameBut.update _ a _)) ?_)) (fits_of_scanBound (by rw [sz]; exact hb)))))
    obtain ⟨ls', p', h'⟩ := paired_perm q1 hp
    exact ⟨_, es2, _, t3, put_there o1 rfl, hx, rfl, ⟨ls', h', p'.trans hpm⟩, nd, by rw [sz]; exact hb, q2, q3, hl.imp id fun z => by rw [q4]; exact z⟩
  · exact wpAny_pure (hR _ b1 ⟨_, es1, _, t2, o1, hx, rfl, T⟩)
theorem addG_hashed {k : κ} {x : Value} {Q : Bool → Shared → Prop} (hk : knd.is k x = true) (hsc : x.scannable = true) (R : SetG knd s.heap a ks) (room : ks.length + 1 < scanBound)
    (hQ : ∀ b h', Heap.SameBut a s.heap h' → SetG knd h' a (insG k ks) → Q b { s with heap := h' }) :
    wpAny (model P w) A (setAddHashed a x (knd.hash k)) Q E s := by
  obtain ⟨o, es, ep, t, ho, hx, hd, T⟩ := id R
  unfold setAddHashed setAddHashedIn
  refine wpAny_holding (wpAny_bind (wpAny_setState_of ho hd T.2.2.2.1 ?_))
  dsimp only
  rw [byScan_of hsc T.2.2.1 T.elems]
  simp only [↓reduceIte]
  unfold setAddByScan
  refine wpAny_bind (wpAny_bind (wpAny_rule (wpAny_bind (wpAny_setScan_of hk ho hd T.2.2.2.1 T.elems ?_))))
  cases hfi : List.findIdx? (fun e => knd.is k e.2) es.toList with
  | some j =>
    dsimp only
    obtain ⟨hj, pj, _⟩ := List.findIdx?_eq_some_iff_getElem.mp hfi
    have m : k ∈ ks := (T.mem k).mp ⟨_, List.getElem_mem hj, pj⟩
    refine wpAny_pure (wpAny_pure (hQ _ s.heap (Heap.SameBut.refl a s.heap) ?_))
    rw [insG, if_pos m]
    exact R
  | none =>
    dsimp only
    have m : k ∉ ks := fun z => by
      obtain ⟨e, he, q⟩ := (T.mem k).mpr z
      have c := List.findIdx?_eq_none_iff.mp hfi e he
      rw [q] at c
      cases c
    have hQ' : ∀ h', Heap.SameBut a s.heap h' → SetG knd h' a (k :: ks) → Q true { s with heap := h' } := fun h' sb g => hQ true h' sb (by rw [insG, if_neg m]; exact g)
    obtain ⟨⟨ls, hp, hpm⟩, nd, hb, hf, hr, hl⟩ := id T
    have q1 := layNew_perm t es (knd.hash k) x
    have q2 := layNew_fits t es (knd.hash k) x
    have q3 := layNew_ris t es (knd.hash k) x hr
    have q4 := layNew_led t es (knd.hash k) x
    generalize layNew t es (knd.hash k) x = z at q1 q2 q3 q4 ⊢
    obtain ⟨es1, t1, dm, gv⟩ := z
    dsimp only at q1 q2 q3 q4 ⊢
    rw [Array.toList_push] at q1
    obtain ⟨ls', p', h'⟩ := paired_perm q1 (paired_snoc hp (show Ent knd k (knd.hash k, x) from ⟨hk, rfl, hsc⟩))
    have p2 : ls'.Perm (k :: ks) := p'.trans ((List.perm_append_singleton _ _).trans (hpm.cons _))
    have sz : es1.size = ks.length + 1 := by
      rw [← Array.length_toList, q1.length_eq, List.length_append, Array.length_toList, T.size]
      rfl
    have T1 : ∀ t2 : SetTable, t2.fits es1.size = true → t2.place = t1.place → t2.led = t1.led → Tab knd w es1 t2 (k :: ks) := fun t2 f2 e1 e2 =>
      ⟨⟨ls', h', p2⟩, List.nodup_cons.mpr ⟨m, nd⟩, by rw [sz]; exact room, f2, by rw [e1]; exact q3, hl.imp id fun z => by rw [e2, q4]; exact z⟩
    have told : ∀ (b : Bool) {s1 : Shared} {Q1 : Unit → Shared → Prop}, Q1 () s1 → wpAny (model P w) A (match b with | true => rule "set.scan.the-table-gave-way" | false => pure ()) Q1 E s1 := fun b s1 Q1 q => by
      cases b
      · exact wpAny_pure q
      · exact wpAny_rule q
    refine wpAny_bind (told _ ?_)
    split
    · refine wpAny_bind ?_
      rw [hashByValue_scannable 8 hsc]
      refine wpAny_pure ?_
      refine laid_tail (by intro b s1 Q1 q; cases b <;> first | exact wpAny_pure q | exact wpAny_rule q) (knd := knd) (ks' := k :: ks) ho hx hd (T1 _ ?_ ?_ ?_) fun h' sb g => wpAny_pure (hQ' h' sb g)
      · split
        · exact q2
        · exact SetTable.fits_plain_off q2
      · split <;> rfl
      · split <;> rfl
    · refine wpAny_bind (wpAny_pure ?_)
      simp only [↓reduceIte]
      exact laid_tail (by intro b s1 Q1 q; cases b <;> first | exact wpAny_pure q | exact wpAny_rule q) (knd := knd) (ks' := k :: ks) ho hx hd (T1 _ q2 rfl rfl) fun h' sb g => wpAny_pure (hQ' h' sb g)
end

/-! ### as a tracked thing; add; the comprehension; sorted -/
def SetKo (P : Program) (w : World) (a : Addr) (ks : List Key) : HO := .ext fun h => SetG (mixKind P w) h a ks
theorem setKo_new {P : Program} {w : World} {H : Hp} {h : Heap} {a : Addr} {ks : List Key} (R : SetG (mixKind P w) h a ks) : ObjOk P w H h a (SetKo P w a ks) := by
  obtain ⟨o, es, ep, t, ho, _⟩ := id R
  exact ⟨R, ⟨o, ho⟩, fun _ _ p k => SetG.at p k⟩
section
variable {X : Cx} {pins : List (Addr × Obj)} {σ : L2.St} {H : Hp} {s : Shared}
theorem setKo_get {a : Addr} {ks : List Key} (I : L2.Inv X pins σ H s) (ha : H a = some (SetKo X.prog X.w a ks)) : SetG (mixKind X.prog X.w) s.heap a ks := (I.hok a _ ha).1
theorem kV_sc {k : Key} {u : Value} (r : RelV (kV k) u) : keyIs k u = true ∧ u.scannable = true := by
  cases k with
  | inl i =>
    obtain ⟨t, rfl⟩ := r
    exact ⟨keyIs_int i t, rfl⟩
  | inr x =>
    obtain ⟨t, rfl⟩ := r
    exact ⟨keyIs_str x t, rfl⟩
theorem addK_ok {E : Value → Shared → Prop} {D : Addr} {ks : List Key} {k : Key} {u : Value} {Q : Value → Shared → Prop} (I : L2.Inv X pins σ H s) (hD : H D = some (SetKo X.prog X.w D ks)) (r : RelV (kV k) u) (room : ks.length + 1 < scanBound)
    (h : ∀ s', L2.Inv X pins σ (upd H D (SetKo X.prog X.w D (insG k ks))) s' → Q .none s') : wpAny (model X.prog X.w) X.A (call (.builtin "set.add") [.ref D, u]) Q E s := by
  have R := setKo_get I hD
  obtain ⟨hk, hsc⟩ := kV_sc r
  refine wpAny_call_entry F.slot_set_add R.setOf.typeIs F.entry_set_add ?_ (F.args_set_add_2 _ _)
  unfold Builtin.«set.add» Builtin.Frozenset.oneOther
  simp only [List.isEmpty_nil, bind_assoc]
  unfold Builtin.Frozenset.addrOf setAdd
  refine wpAny_bind (wpAny_pure ?_)
  try dsimp only
  refine wpAny_bind (wpAny_pure ?_)
  try dsimp only
  refine wpAny_bind (wpAny_holding (wpAny_bind ((mixKind X.prog X.w).pyHash (k := k) hk ?_)))
  refine addG_hashed (knd := mixKind X.prog X.w) (s := { s with toks := s.toks + 1 }) hk hsc R room fun b h' sb new => ?_
  show wpAny _ _ (ret Value.none) _ _ _
  obtain ⟨o, _, _, _, ho, _⟩ := id new
  exact wpAny_pure ⟨_, rfl, h _ (I.write (e := D) (t' := s.toks + 1) (by rw [hD]; trivial) (.inl rfl) (fun b u hb hu => (sb.2 b hb).trans hu) ⟨o, ho⟩ (setKo_new new))⟩
end
section
variable {X : Cx}
def tScK (P : Program) (w : World) (wi : TI) (g : TG) (tt : TT) (te : TE) (vs : List Nat) : TE := fun σ H Q => wi σ H fun J H1 => ∀ D, H1 D = none → ∃ W : Nat → Nat → Hp → Prop, (∃ m, W 0 m (upd H1 D (SetKo P w D []))) ∧ ∀ i m H, W i m H →
  (J.stop i H ∧ Q (.ref D) H) ∨ (J.go i H ∧ ∃ Nx : Hp → Prop, (∀ H', Nx H' → ∃ m', m' < m ∧ W (i + 1) m' H') ∧ ∀ x H', J.yld i H x H' → g x (wipe σ vs) H' fun σ2 H2 => wipe σ2 vs = wipe σ vs ∧ tt σ2 H2 fun b H3 =>
    if b = true then te σ2 H3 fun y H4 => ∃ (k : Key) (ks : List Key), y = kV k ∧ H4 D = some (SetKo P w D ks) ∧ ks.length + 1 < scanBound ∧ Nx (upd H4 D (SetKo P w D (insG k ks))) else Nx H3)
theorem pe_scK {elt tg iter : Expr} {ifs : List Expr} {scope : Scope} {own : List (Str × Nat)} {pos : Pos} {wi : TI} {g : TG} {tt : TT} {te : TE} (hc : X.calm = true) (hN : X.N.Nodup) (hi : PI X tg iter wi) (ok : BlkOk X.N X.env.scope scope own)
    (hg : ∀ (s : Shared) (H : Hp) (C : Addr) (cl : List (Str × Addr)) (fp : List Addr), PG (X.blk s H scope (compEnvC scope cl C X.env) fp) tg g) (ht : ∀ (s : Shared) (H : Hp) (C : Addr) (cl : List (Str × Addr)) (fp : List Addr), PTs (X.blk s H scope (compEnvC scope cl C X.env) fp) ifs tt)
    (he : ∀ (s : Shared) (H : Hp) (C : Addr) (cl : List (Str × Addr)) (fp : List Addr), PE (X.blk s H scope (compEnvC scope cl C X.env) fp) elt te) (hs : ∀ x, foldedSetIterable iter X.env x = pure x := by intro _; rfl) :
    PE X (.SetComp elt [⟨tg, iter, ifs, 0⟩] scope pos) (tScK X.prog X.w wi g tt te (own.map (·.2))) := by
  refine ⟨fun pins s σ H Q I h => ?_⟩
  rw [PpSet.eval_SetComp]
  refine wpAny_comprehension_free (use := none) rfl hs (closure_ok fun y hy e => (ok.free y hy e).elim (fun k => I.ok.has _ (.inl k)) fun k => I.ok.has _ (.inr k)) ok.kind (fun y hy e => by rw [ok.uniq y hy, e])
    (thn (hi.run pins s σ H _ I h) fun xv s1 hx => thn hx fun itv s2 h2 => ?_)
  obtain ⟨it, fp, tn, J, H2, rfl, I2, T, st2, f2, q⟩ := h2
  refine PpSet.newSet_ok (newEnv_comp ?_)
  obtain ⟨W, ⟨m0, w0⟩, turn⟩ := q s2.heap.objs.size (I2.hok.fresh (Nat.le_refl _))
  have I3 : L2.Inv X pins σ (upd H2 s2.heap.objs.size (SetKo X.prog X.w s2.heap.objs.size [])) { s2 with heap := s2.heap.push { cls := .type "set", dict := none, data := .set #[] 0 (.fresh 0 0 (!X.w.params.followText "set-order")) } } :=
    I2.laid (t' := s2.toks) (fun b o e => Heap.get?_push_of_some _ e) (Nat.le_refl _) (setKo_new SetG.fresh)
  have lt2 : ∀ b ∈ fp, b < s2.heap.objs.size := fun b hb => let ⟨_, e, _⟩ := T.obj _ _ st2 b hb; Heap.lt_size e
  generalize hD : s2.heap.objs.size = D at I3 w0 turn lt2
  generalize hS : ({ s2 with heap := s2.heap.push { cls := .type "set", dict := none, data := .set #[] 0 (.fresh 0 0 (!X.w.params.followText "set-order")) } } : Shared) = s3 at I3
  have h3 : s3.heap = s2.heap.push { cls := .type "set", dict := none, data := .set #[] 0 (.fresh 0 0 (!X.w.params.followText "set-order")) } := by rw [← hS]
  have st3 : tn 0 s3.heap := T.keep _ _ _ st2 fun b _ o e => by rw [h3]; exact Heap.get?_push_of_some _ e
  generalize hH : upd H2 D (SetKo X.prog X.w D []) = H3 at I3 w0
  have f3 : ∀ b ∈ fp, FpOk X pins H3 b ∧ b < s3.heap.objs.size := fun b hb => by
    refine ⟨⟨?_, (f2 b hb).2⟩, by rw [h3, Heap.size_push, hD]; exact Nat.lt_succ_of_lt (lt2 b hb)⟩
    rw [← hH, upd_ne (Nat.ne_of_lt (lt2 b hb))]
    exact (f2 b hb).1
  have I4 := block_start I3 ok hN f3
  have pg := hg s3 H3 s3.heap.objs.size (cellsFrom (s3.heap.objs.size + 1) scope.names (cloFrom X.env.cells scope.names [])) fp
  have pt := ht s3 H3 s3.heap.objs.size (cellsFrom (s3.heap.objs.size + 1) scope.names (cloFrom X.env.cells scope.names [])) fp
  have pe := he s3 H3 s3.heap.objs.size (cellsFrom (s3.heap.objs.size + 1) scope.names (cloFrom X.env.cells scope.names [])) fp
  suffices goal : codeAny (model X.prog X.w) X.A (.compStart (.SetComp elt [⟨tg, iter, ifs, 0⟩] scope pos) 0 (.ref it) (.ref D) (compEnvC scope (cellsFrom (s3.heap.objs.size + 1) scope.names (cloFrom X.env.cells scope.names [])) s3.heap.objs.size X.env))
      (compPost (model X.prog X.w) X.A X.xe none (EP X pins σ Q) (.ref D) s3.heap.objs.size) { s3 with heap := pushCells (s3.heap.push { cls := .type "dict", data := .dict #[] }) scope.names } by
    subst hD
    subst hS
    exact goal
  generalize hce : compEnvC scope (cellsFrom (s3.heap.objs.size + 1) scope.names (cloFrom X.env.cells scope.names [])) s3.heap.objs.size X.env = ce at I4 pg pt pe ⊢
  have cL : ce.locals = s3.heap.objs.size := by subst hce; rfl
  generalize hs4 : ({ s3 with heap := pushCells (s3.heap.push { cls := .type "dict", data := .dict #[] }) scope.names } : Shared) = s4 at I4 ⊢
  have st4 : tn 0 s4.heap := T.keep _ _ _ st3 fun b _ o e => by rw [← hs4]; exact pushCells_keeps _ _ _ _ (Heap.get?_push_of_some _ e)
  have fpB : ∀ {σ' : L2.St} {H' : Hp} {s' : Shared}, L2.Inv (X.blk s3 H3 scope ce fp) [] σ' H' s' → (∀ b ∈ fp, H' b = none) → ∀ b ∈ fp, FpOk (X.blk s3 H3 scope ce fp) [] H' b := fun I' n b hb =>
    ⟨n b hb, (I'.ok.exf b hb).1, I'.ok.exfs b hb, .inl hb, fun x c e => (I'.ok.exf b hb).2 x c e, fun p hp => absurd (show p ∈ ([] : List (Addr × Obj)) ++ [] from hp) (by simp)⟩
  have round : codeAny (model X.prog X.w) X.A (.compLoop (.SetComp elt [⟨tg, iter, ifs, 0⟩] scope pos) 0 (.ref it) (.ref D) ce) (compPost (model X.prog X.w) X.A X.xe none (EP X pins σ Q) (.ref D) s3.heap.objs.size) s4 := by
    refine PpSet.compLoopS_any (fun n s' => ∃ i H', L2.Inv (X.blk s3 H3 scope ce fp) [] (wipe σ (own.map (·.2))) H' s' ∧ tn i s'.heap ∧ (∀ b ∈ fp, H' b = none) ∧ W i n H') ?_ m0 ⟨0, H3, I4, st4, fun b hb => (f3 b hb).1.1, w0⟩
    rintro n s5 ⟨i, H5, I5, st5, n5, w5⟩
    rcases turn i n H5 w5 with ⟨stop, q5⟩ | ⟨go, Nx, hNx, step⟩
    · refine thnF (T.done (X.blk s3 H3 scope ce fp) rfl rfl rfl hc i [] s5 _ H5 (fun _ _ => False) I5 (fpB I5 n5) st5 stop) fun r s6 ⟨hr, I6⟩ => ?_
      subst hr
      have I7 : L2.Inv X pins σ H5 s6 := I3.call' (ch := fp) I6.os I6.base I6.hok I6.bare fun b hb => ⟨(f3 b hb).1.2.2.2.1, (f3 b hb).1.2.1, (f3 b hb).1.2.2.2.2.1, (f3 b hb).1.2.2.2.2.2⟩
      have nC : H5 s3.heap.objs.size = none := by
        have z : H5 ce.locals = none := I6.free
        rwa [cL] at z
      obtain ⟨m, hn, _⟩ := I6.loc
      have hn' : s6.heap.Ns s3.heap.objs.size m := by
        rw [← cL]
        exact hn
      obtain ⟨f0, f1, g2, g3, g4, g5⟩ := I3.fpOk (b := s3.heap.objs.size) (Nat.le_refl _) nC
      exact ⟨m, hn', fun h'' sb => ⟨.ref D, H5, I7.turned (t' := s6.toks) (fun b o hb e => (sb.2 b hb).trans e) f0 f1 g3 g4 g5, rfl, q5⟩⟩
    · refine thnF (T.item (X.blk s3 H3 scope ce fp) rfl rfl rfl hc i [] s5 _ H5 (fun _ _ => False) I5 (fpB I5 n5) st5 go) fun r s6 ⟨u, hr, h6⟩ => ?_
      subst hr
      refine thnF h6 fun _ s7 ⟨x, H7, I7, r7, y7, st7, n7⟩ => ?_
      refine thnF (pg.run _ s7 _ H7 x u _ (I7.pinned (fpB I7 n7) (T.obj _ _ st7)) r7 (step x H7 y7)) fun _ s8 ⟨σ8, H8, I8, hw8, q8⟩ => ?_
      refine thnF (pt.run _ s8 σ8 H8 _ I8 q8) fun b s9 ⟨H9, I9, q9⟩ => ?_
      have turned : ∀ {s' : Shared} {H' : Hp}, L2.Inv (X.blk s3 H3 scope ce fp) ([] ++ pinsAt fp s7.heap) σ8 H' s' → Nx H' → ∃ m, m < n ∧ ∃ i H', L2.Inv (X.blk s3 H3 scope ce fp) [] (wipe σ (own.map (·.2))) H' s' ∧ tn i s'.heap ∧ (∀ b ∈ fp, H' b = none) ∧ W i m H' := fun {s' H'} I' nx => by
        obtain ⟨m', hm, w'⟩ := hNx H' nx
        have stay : ∀ b ∈ fp, ∀ o, s7.heap.get? b = some o → s'.heap.get? b = some o ∧ H' b = none := fun b hb o e => by
          obtain ⟨z1, z2, _⟩ := I'.pin (b, o) (List.mem_append_right _ (List.mem_append_right _ (mem_pinsAt hb e)))
          exact ⟨z1, z2⟩
        refine ⟨m', hm, i + 1, H', (I'.unpinned (pins := [])).weak (by rw [← hw8, wipe_length]) (fun j v e => ?_), T.keep _ _ _ st7 fun b hb o e => (stay b hb o e).1, fun b hb => ?_, w'⟩
        · rw [← hw8] at e
          exact (wipe_some e).1
        · obtain ⟨o, e, _⟩ := T.obj _ _ st7 b hb
          exact (stay b hb o e).2
      cases b with
      | false =>
        rw [if_neg Bool.false_ne_true] at q9
        rw [if_neg Bool.false_ne_true]
        exact turned I9 q9
      | true =>
        rw [if_pos rfl] at q9
        rw [if_pos rfl]
        refine thnF (pe.run _ s9 σ8 H9 _ I9 q9) fun z s10 ⟨yv, H10, I10, r10, kk, ks, ey, hD10, room, nx⟩ => ?_
        subst ey
        exact addK_ok (X := X.blk s3 H3 scope ce fp) I10 hD10 r10 room fun s11 I11 => turned I11 nx
  exact PpSet.codeAny_compStart_set round (T.self X.A 0 _ _ _ st4 round)
end
end WW

set_option Elab.async false
set_option linter.all false
set_option maxRecDepth 100000
set_option maxHeartbeats 4000000
namespace WW
open PySem PySem.Spec PyProof.Rows L2
/-! ### sorted of data: a list, a tuple, a set of texts -/
def leD (x y : V × PyData) : Bool := PySem.W.dataLe false (fun z : V × PyData => z.2) x y
def srtD (xs : List (V × PyData)) : List V := (xs.mergeSort (PySem.W.dataLe false fun z : V × PyData => z.2)).map (·.1)
section
variable {X : Cx} {pins : List (Addr × Obj)} {σ : L2.St} {H : Hp} {s : Shared}
theorem vals_each {R : Value → V × PyData → Prop} : ∀ {xs : List (V × PyData)} {vs : List Value}, Vals (xs.map (·.1)) vs → (∀ x u, x ∈ xs → RelV x.1 u → R u x) → PySem.W.EachIs R vs xs
  | [], _, h, _ => by cases h; exact .nil
  | x :: xs, _, h, f => by
    cases h with
    | cons r t => exact .cons (f x _ (by simp) r) (vals_each t fun y u hy => f y u (by simp [hy]))
theorem each_vals : ∀ {xs : List (V × PyData)} {vs : List Value}, PySem.W.EachIs (fun u (x : V × PyData) => RelV x.1 u) vs xs → Vals (xs.map (·.1)) vs
  | [], _, h => by cases h; exact .nil
  | x :: xs, _, h => by
    cases h with
    | cons r t => exact .cons r (each_vals t)
/-- what stands behind sorted's gathering of the items -/
theorem sort_tail {A : Around} {E : Value → Shared → Prop} {Q : VK} {xs : List (V × PyData)} {vs : List Value} (I : L2.Inv X pins σ H s) (r : Vals (xs.map (·.1)) vs) (hd : ∀ x ∈ xs, Dp X.K H x.1 x.2)
    (hal : PySem.W.AllAlike (xs.map (·.2))) (hso : PySem.W.Sortable (xs.map (·.2))) (hn : xs.length ≤ sizeLine) (hu : ∀ x ∈ xs, A.units + 1 + x.2.depth < cLine)
    (q : ∀ p, H p = none → Q (.ref p) (upd H p (.lst (srtD xs)))) :
    wpAny (model X.prog X.w) A (do
      let l ← newList vs
      let _ ← holding [l] (call (.builtin "list.sort") [l])
      ret l) (fun fin s' => ∃ v, fin = Fin.done (Flow.ret v) ∧ EP X pins σ Q v s') E s := by
  have hvl : vs.length = xs.length := by rw [← r.length, List.length_map]
  refine wpAny_bind (wpAny_newList ?_ (by rw [hvl]; exact hn))
  have hat : (s.heap.push (seqObj "list" vs.toArray 0)).get? s.heap.objs.size = some (seqObj "list" vs.toArray 0) := Heap.get?_push_size _ rfl
  have er : PySem.W.EachIs (fun v (b : V × PyData) => ∃ as, Reads (PySem.W.sortingHeap (s.heap.push (seqObj "list" vs.toArray 0)) s.heap.objs.size vs) v b.2 as) vs xs := vals_each r fun x u hx ru => by
    obtain ⟨as, hr⟩ := Dp.reads I x.2 x.1 u (hd x hx) ru
    exact ⟨as, PyProof.Rows.Reads.keeps (fun b o e => PySem.W.sortingHeap_old (Nat.ne_of_lt (Heap.lt_size e)) (Heap.get?_push_of_some _ e)) hr⟩
  have ev : PySem.W.EachIs (fun u (x : V × PyData) => RelV x.1 u) vs xs := vals_each r fun x u _ ru => ru
  show wpAny _ _ _ _ _ { s with heap := s.heap.push (seqObj "list" vs.toArray 0) }
  refine wpAny_bind (wpAny_holding (wpAny_call_entry slot_list_sort ⟨_, hat, rfl⟩ entry_list_sort
    (PySem.W.list_sort_vals (κ := PySem.W.dataKind (PySem.W.sortingHeap (s.heap.push (seqObj "list" vs.toArray 0)) s.heap.objs.size vs) (xs.map (·.2))) (s := { s with heap := s.heap.push (seqObj "list" vs.toArray 0) }) hat
      (PySem.W.SortsAt.data (PySem.W.each_map (fun b : V × PyData => b.2) er) hal hso (PySem.W.bound_map hu)) (by rw [hvl]; exact hn) ⟨_, rfl, ?_⟩) (args_list_sort _)))
  have eo := PySem.W.sortVals_data false ev er hal
  generalize PySem.W.sortVals (PySem.W.dataKind (PySem.W.sortingHeap (s.heap.push (seqObj "list" vs.toArray 0)) s.heap.objs.size vs) (xs.map (·.2))) false vs vs = out at eo ⊢
  have rv := each_vals eo
  obtain ⟨ep, ho⟩ := sortedHeap_at (vs := vs) (out := out.toArray) hat
  have hl : (srtD xs).length ≤ sizeLine := by
    unfold srtD
    rw [List.length_map, List.length_mergeSort]
    exact hn
  refine wpAny_pure ⟨_, rfl, .ref s.heap.objs.size, upd H s.heap.objs.size (.lst (srtD xs)), I.laid (t' := s.toks) (fun b u e => ?_) (Nat.le_refl _) ⟨hl, out, ep, rv, ho⟩, rfl, q _ (I.hok.fresh (Nat.le_refl _))⟩
  have hb := Heap.lt_size e
  rw [sortedHeap_old (Nat.ne_of_lt hb) (by rw [size_push']; exact Nat.lt_succ_of_lt hb)]
  exact Heap.get?_push_of_some _ e
/-- sorted(xs), xs a list or a tuple of data -/
def rSortedQ (K : PySem.W.Frag) : List V → Hp → VK → Prop := fun vs H Q => ∃ (a : Addr) (xs : List (V × PyData)), vs = [.ref a] ∧ (SqL K H a (xs.map (·.1)) ∨ SqT K H a (xs.map (·.1))) ∧ (∀ x ∈ xs, Dp K H x.1 x.2) ∧
  PySem.W.AllAlike (xs.map (·.2)) ∧ PySem.W.Sortable (xs.map (·.2)) ∧ (∀ x ∈ xs, x.2.depth ≤ 64) ∧ ∀ p, H p = none → Q (.ref p) (upd H p (.lst (srtD xs)))
theorem cr_sortedD (hu : X.A.units + 70 < cLine) : CallR X (.builtin "sorted") (rSortedQ X.K) := by
  intro pins s σ H us vs Q I r h
  obtain ⟨a, xs, rfl, hs, hd, hal, hso, hdp, q⟩ := h
  rw [Vals.ref1 r]
  have go : ∀ (its : List Value) (T : String) (o : Obj) (n : Nat), (T = "list" ∨ T = "tuple") → s.heap.get? a = some o → o.cls = .type T → o.data = .seq its.toArray n → Vals (xs.map (·.1)) its → (xs.map (·.1)).length ≤ sizeLine →
      wpAny (model X.prog X.w) X.A (call (.builtin "sorted") [.ref a]) (EP X pins σ Q) X.xe s := fun its T o n hT ho hc hdt rv hz => by
    rw [List.length_map] at hz
    refine Calls.call_function_entry kind_sorted plain_sorted entry_sorted (args_sorted1 _) ?_
    unfold Builtin.«sorted»
    refine wpAny_bind (m := checkCount "sorted" 1 1 _) (wpAny_pure ?_)
    refine wpAny_bind (wpAny_collect_seq a hT ho hc hdt (fun h' hk => ?_) (by rw [List.size_toArray, ← rv.length, List.length_map]; exact hz))
    have I1 : L2.Inv X pins σ H { s with heap := h' } := I.kept (t' := s.toks) hk
    refine sort_tail (A := X.A.in1) (Q := Q) I1 rv hd hal hso hz (fun x hx => ?_) q
    have h1 := hdp x hx
    show X.A.units + 1 + 1 + x.2.depth < cLine
    omega
  rcases hs with hs | hs
  · obtain ⟨its, rv, ⟨o, n, ho, hc, _, hdt⟩, hz⟩ := I.list hs
    exact go its "list" o n (.inl rfl) ho hc hdt rv hz
  · obtain ⟨its, rv, ⟨o, ho, hc, n, hdt⟩, hz⟩ := I.tuple hs
    exact go its "tuple" o n (.inr rfl) ho hc hdt rv hz
/-- sorted of a set of texts -/
def rSortedSt (P : Program) (w : World) : List V → Hp → VK → Prop := fun vs H Q => ∃ (a : Addr) (ks : List Str), vs = [.ref a] ∧ H a = some (SetKo P w a (ks.map Sum.inr)) ∧
  ∀ p (ys : List Str), ys.Perm ks → H p = none → Q (.ref p) (upd H p (.lst (srtD (ys.map fun z => (V.str z, PyData.str z)))))
theorem cr_sortedSt (hc : X.calm = true) (hu : X.A.units + 70 < cLine) : CallR X (.builtin "sorted") (rSortedSt X.prog X.w) := by
  intro pins s σ H us vs Q I r h
  obtain ⟨a, ks, rfl, ha, q⟩ := h
  rw [Vals.ref1 r]
  obtain ⟨o, es, ep, t, ho, hx, hd, T⟩ := setKo_get I ha
  refine Calls.call_function_entry kind_sorted plain_sorted entry_sorted (args_sorted1 _) ?_
  unfold Builtin.«sorted»
  refine wpAny_bind (m := checkCount "sorted" 1 1 _) (wpAny_pure ?_)
  refine wpAny_bind (collect_set (A := X.A.in1) (show X.A.in1.handled = none from I.ok.hd hc) ⟨o, ho, hx.1, hd⟩ T.2.2.2.1 T.2.2.1 T.2.2.2.2.1 T.2.2.2.2.2 fun s1 out hk hsz hg hos hp => ?_)
  obtain ⟨ys, py, ry⟩ : ∃ ys : List Str, ys.Perm ks ∧ Vals (ys.map V.str) out := by
    obtain ⟨ls, pl, pk⟩ := T.1
    have p1 : Paired (fun (k : Key) (u : Value) => RelV (kV k) u) ls (es.toList.map (·.2)) := by
      clear pk
      generalize es.toList = el at pl
      clear hp
      induction pl with
      | nil => exact .nil
      | cons r t ih =>
        refine .cons ?_ ih
        obtain ⟨r1, _⟩ := r
        rcases keyIs_shape r1 with ⟨i, t, rfl, e⟩ | ⟨x, t, rfl, e⟩
        · exact ⟨t, e⟩
        · exact ⟨t, e⟩
    obtain ⟨l2, p2, h2⟩ := paired_perm hp p1
    have p3 : l2.Perm (ks.map Sum.inr) := p2.trans pk
    clear p1 p2 pl pk hp
    have hall : ∀ k ∈ l2, ∃ z, k = Sum.inr z := fun k hk => by
      obtain ⟨z, _, e⟩ := List.mem_map.mp (p3.mem_iff.mp hk)
      exact ⟨z, e.symm⟩
    have hz : ∃ ys : List Str, l2 = ys.map Sum.inr := by
      clear h2 p3
      induction l2 with
      | nil => exact ⟨[], rfl⟩
      | cons k l ih =>
        obtain ⟨z, rfl⟩ := hall k (by simp)
        obtain ⟨ys, rfl⟩ := ih fun k hk => hall k (by simp [hk])
        exact ⟨z :: ys, rfl⟩
    obtain ⟨ys, rfl⟩ := hz
    have p4 := p3.map fun (k : Key) => match k with
      | .inr z => z
      | .inl _ => Str.empty
    rw [List.map_map, List.map_map] at p4
    have e4 : ∀ l : List Str, l.map ((fun (k : Key) => match k with
      | .inr z => z
      | .inl _ => Str.empty) ∘ Sum.inr) = l := fun l => by
      induction l with
      | nil => rfl
      | cons x r ih =>
        rw [List.map_cons, ih]
        rfl
    rw [e4, e4] at p4
    refine ⟨ys, p4, ?_⟩
    clear p3 hall p4
    induction ys generalizing out with
    | nil => cases h2; exact .nil
    | cons y ys ih =>
      cases h2 with
      | cons r t => exact .cons r (ih _ t)
  have I1 : L2.Inv X pins σ H s1 := by
    obtain ⟨h1, g1, d1, t1, o1⟩ := s1
    have e1 : g1 = s.gens := hg
    have e2 : o1 = s.os := hos
    subst e1 e2
    exact I.call' (ch := []) rfl (Un.kept hk) (I.hok.kept hk) I.bare (fun _ z => nomatch z)
  have em : (ys.map fun z => (V.str z, PyData.str z)).map (·.1) = ys.map V.str := by rw [List.map_map]; rfl
  have e2 : (ys.map fun z => (V.str z, PyData.str z)).map (·.2) = ys.map PyData.str := by rw [List.map_map]; rfl
  refine sort_tail (A := X.A.in1) (Q := Q) (xs := ys.map fun z => (V.str z, PyData.str z)) I1 (by rw [em]; exact ry) ?_ ?_ ?_ ?_ ?_ (fun p hp => q p ys py hp)
  · intro x hx
    obtain ⟨z, _, rfl⟩ := List.mem_map.mp hx
    exact .str z
  · rw [e2]
    exact PySem.W.AllAlike.of fun b b' => rfl
  · rw [e2]
    exact PySem.W.Sortable.others fun b => ⟨(fun e => by cases e), (fun xs e => by cases e)⟩
  · rw [List.length_map, py.length_eq]
    have h1 := T.size
    have h2 := T.2.2.1
    rw [h1, List.length_map] at h2
    exact fits_of_scanBound h2
  · intro x hx
    obtain ⟨z, _, rfl⟩ := List.mem_map.mp hx
    show X.A.units + 1 + 1 + PyData.depth (.str z) < cLine
    have : PyData.depth (.str z) ≤ 1 := by simp [PyData.depth]
    omega
end
end WW

set_option Elab.async false
set_option linter.all false
set_option maxRecDepth 100000
set_option maxHeartbeats 4000000
namespace WW
open PySem PySem.Spec PyProof.Rows L2
/-! ### == and != by the text's own __eq__ -/
section
variable {prog : Program} {w : World} {A : Around} {E : Value → Shared → Prop} {s : Shared} {K : PySem.W.Frag} {x y C f : Addr} {ox oy : Obj} {od ody : Option Obj}
theorem ne_body {Q : PySem.Fin → Shared → Prop} (hu : A.units < cLine) (X : K.In s.heap) (I : PySem.W.InstAt s.heap x ox C od) (heq : PySem.W.findIn K (.ref C) "__eq__" = some (some (.ref f))) (hf : PySem.W.isFn K (.ref f) = true)
    (h : wpAny (model prog w) A (call (.ref f) [.ref x, .ref y]) (fun v s' => ∃ b, v = .bool b ∧ Q (.done (.ret (.bool (!b)))) s') E s) :
    wpAny (model prog w) A (Builtin.«object.__ne__» ⟨[.ref x, .ref y], []⟩) Q E s := by
  unfold Builtin.«object.__ne__»
  refine wpAny_bind (wpAny_of_eq (show slotArgs "__ne__" 1 ⟨[.ref x, .ref y], []⟩ = pure (Value.ref x, [Value.ref y]) from rfl) ?_)
  show wpAny (model prog w) A (cRoomFor "comparison" [.ref x, .ref y] >>= _) Q E s
  refine wpAny_bind (wpAny_cRoomFor hu ?_)
  refine wpAny_bind (PySem.W.ifBound_K X I heq hf (wpAny_mono h (fun v s' hv => ?_) fun _ _ e => e))
  obtain ⟨b, rfl, q⟩ := hv
  exact wpAny_bind (wpAny_truthy_bool (wpAny_pure q))
theorem ne_K {Q : Value → Shared → Prop} (hu : A.units + 1 < cLine) (X : K.In s.heap) (I : PySem.W.InstAt s.heap x ox C od) (J : PySem.W.InstAt s.heap y oy C ody) (hne : PySem.W.findIn K (.ref C) "__ne__" = some (some (.builtin "object.__ne__")))
    (hsub : PySem.W.subIn K (.ref C) (.type "object") = some true) (heq : PySem.W.findIn K (.ref C) "__eq__" = some (some (.ref f))) (hf : PySem.W.isFn K (.ref f) = true)
    (h : wpAny (model prog w) A.in1 (call (.ref f) [.ref x, .ref y]) (fun v s' => ∃ b, v = .bool b ∧ Q (.bool (!b)) s') E s) :
    wpAny (model prog w) A (compareOp .NotEq (.ref x) (.ref y)) Q E s := by
  have one : wpAny (model prog w) A (tryCompare (.ref x) "__ne__" (.ref y)) (fun r s' => ∃ b, r = some (.bool (!b)) ∧ Q (.bool (!b)) s') E s := by
    unfold tryCompare
    refine wpAny_bind ?_
    simp only [callSpecialIfBound?, bindSpecialIfBound?]
    refine wpAny_holding (wpAny_bind (wpAny_bind (wpAny_bind (I.type.here ((PySem.W.looks_findIn X hne).here ?_)))))
    have fin : wpAny (model prog w) A (call (.builtin "object.__ne__") ([.ref x] ++ [.ref y]) >>= fun v => pure (some v)) (fun r s' => wpAny (model prog w) A (match r with
        | some Value.notImplemented => pure none
        | none => pure none
        | some v => pure (some v)) (fun r s' => ∃ b, r = some (.bool (!b)) ∧ Q (.bool (!b)) s') E s') E s := by
      refine wpAny_bind (wpAny_call (codeAny_call_builtin PySem.F.cmp_object.ne.plain PySem.F.cmpEntry_ne (PySem.W.check_slot PySem.F.cmpKind_ne PySem.F.cmpSplit_ne (I.type.andThen (PySem.W.looks_subIn X hsub)) (PySem.F.cmpArgs_ne _ _) (ne_body (A := A.in1) hu X I heq hf (wpAny_mono h (fun v s' hv => ?_) fun _ _ e => e)))))
      obtain ⟨b, rfl, q⟩ := hv
      exact ⟨b, rfl, wpAny_pure (wpAny_pure ⟨b, rfl, q⟩)⟩
    simp only [PySem.F.cmp_object.ne.bind]
    refine wpAny_bind (wpAny_askSetting (wpAny_ite ?_))
    split
    · exact wpAny_bind (wpAny_pure (wpAny_pure fin))
    · exact wpAny_tryCatch (wpAny_bind (wpAny_pure (wpAny_pure fin)))
  unfold compareOp richCompare
  simp only [PySem.oneThing_ref]
  refine wpAny_holding (wpAny_bind (wpAny_cRoomFor (Nat.lt_of_succ_lt hu) ?_))
  refine wpAny_bind (I.type.here (wpAny_bind (J.type.here ?_)))
  rw [show (Value.ref C != Value.ref C) = false from by simp]
  simp only [Bool.false_eq_true, if_false]
  refine wpAny_bind (wpAny_pure ?_)
  simp only [Bool.false_eq_true, if_false]
  refine wpAny_bind (wpAny_mono one (fun r s' z => ?_) fun _ _ e => e)
  obtain ⟨b, rfl, q⟩ := z
  exact wpAny_pure q
end

/-- a class with its own __eq__ and the plain != -/
structure EqC (K : PySem.W.Frag) (C f : Addr) : Prop where
  eq : PySem.W.findIn K (.ref C) "__eq__" = some (some (.ref f))
  ne : PySem.W.findIn K (.ref C) "__ne__" = some (some (.builtin "object.__ne__"))
  fn : PySem.W.isFn K (.ref f) = true
  sub : PySem.W.subIn K (.ref C) (.type "object") = some true
section
variable {X : Cx} {n : Nat} {C f : Addr} {fd : FuncData} {ps : List Str} {sp : Sp}
def rEqO (C : Addr) (sp : Sp) : R2 := fun x y H Q => ∃ a b dx dy fs gs, x = .ref a ∧ y = .ref b ∧ H a = some (.ins C dx fs) ∧ H b = some (.ins C dy gs) ∧ sp [.ref a, .ref b] H Q E0
def rNeO (C : Addr) (sp : Sp) : R2 := fun x y H Q => ∃ a b dx dy fs gs, x = .ref a ∧ y = .ref b ∧ H a = some (.ins C dx fs) ∧ H b = some (.ins C dy gs) ∧ sp [.ref a, .ref b] H (fun v H' => ∃ c, v = .bl c ∧ Q (.bl (!c)) H') E0
theorem run2 {pins : List (Addr × Obj)} {σ : L2.St} {H : Hp} {s : Shared} {A : Around} {Q : VK} {a b : Addr} {E : Value → Shared → Prop} (F : FnOk X.prog X.w X.K X.mg X.base CX0 n f fd ps sp) (hb : Binds X.K fd ps []) (I : L2.Inv X pins σ H s) (hr : Room n A) (hfr : A.frames = X.A.frames)
    (h : sp [.ref a, .ref b] H Q E0) : wpAny (model X.prog X.w) A (call (.ref f) [.ref a, .ref b]) (EP X pins σ Q) E s := by
  have e0 : Env0 X.prog X.w X.K X.mg X.base A X.stack s H := by
    have e := I.env0
    exact ⟨by rw [hfr]; exact e.frames, e.mod, e.bs, e.bsz, e.funs, e.frf, e.hok, e.bare⟩
  have hl := F.len _ _ _ _ h
  have r2 : Vals [V.ref a, V.ref b] [Value.ref a, Value.ref b] := .cons rfl (.cons rfl .nil)
  refine wpAny_call (codeAny_mono (F.run A X.stack s H ⟨[.ref a, .ref b], []⟩ [.ref a, .ref b] [.ref a, .ref b] Q E0 hr e0 (by
    have := hb s [.ref a, .ref b] I.kIn (by simpa using hl)
    simpa using this) r2 h) fun r s' hq => ?_)
  cases r with
  | error e => exact False.elim hq
  | ok fl =>
    cases fl with
    | ret w =>
      obtain ⟨z, H', I', rz, q⟩ := I.after hq
      exact ⟨z, H', I', rz, q⟩
    | next => exact False.elim hq
    | brk => exact False.elim hq
    | cont => exact False.elim hq
theorem op_eqO (c : EqC X.K C f) (F : FnOk X.prog X.w X.K X.mg X.base CX0 n f fd ps sp) (hb : Binds X.K fd ps []) (hr : Room n X.A) : OpR X (compareOp .Eq) (rEqO C sp) := by
  intro pins s σ H x y v u Q I rx ry h
  obtain ⟨a, b, dx, dy, fs, gs, rfl, rfl, ha, hb', q⟩ := h
  cases rx
  cases ry
  obtain ⟨mA, J, _⟩ := ins_get I.hok ha
  obtain ⟨mB, J', _⟩ := ins_get I.hok hb'
  obtain ⟨od, J, _⟩ := J.look
  obtain ⟨od', J', _⟩ := J'.look
  obtain ⟨m, hF⟩ := I.fr
  show wpAny (model X.prog X.w) X.A (richCompare .Eq (.ref a) (.ref b)) _ _ _
  refine PySem.W.cmp_K (op := .Eq) (tb := .ref C) hr.units0 hF I.ok.mod.kin J J'.type (by simp [PySem.W.notFirst]) c.eq c.fn (wpAny_mono (run2 F hb I hr rfl q) (fun z s' hz => ?_) fun _ _ e => e)
  obtain ⟨z', H', I', rz, q'⟩ := id hz
  cases z' with
  | non => cases (show z = Value.none from rz); exact hz
  | bl c => cases (show z = Value.bool c from rz); exact hz
  | int i => obtain ⟨t, e⟩ := (show ∃ t, z = Value.int i t from rz); cases e; exact hz
  | str i => obtain ⟨t, e⟩ := (show ∃ t, z = Value.str i t from rz); cases e; exact hz
  | byt i => obtain ⟨t, e⟩ := (show ∃ t, z = Value.bytes i t from rz); cases e; exact hz
  | flt i => obtain ⟨t, e⟩ := (show ∃ t, z = Value.float i t from rz); cases e; exact hz
  | ref i => cases (show z = Value.ref i from rz); exact hz
  | ty i => cases (show z = Value.type i from rz); exact hz
theorem op_neO (c : EqC X.K C f) (F : FnOk X.prog X.w X.K X.mg X.base CX0 n f fd ps sp) (hb : Binds X.K fd ps []) (hr : Room (n + 1) X.A) : OpR X (compareOp .NotEq) (rNeO C sp) := by
  intro pins s σ H x y v u Q I rx ry h
  obtain ⟨a, b, dx, dy, fs, gs, rfl, rfl, ha, hb', q⟩ := h
  cases rx
  cases ry
  obtain ⟨mA, J, _⟩ := ins_get I.hok ha
  obtain ⟨mB, J', _⟩ := ins_get I.hok hb'
  obtain ⟨od, J, _⟩ := J.look
  obtain ⟨od', J', _⟩ := J'.look
  refine ne_K (by have := hr.un; omega) I.kIn J J' c.ne c.sub c.eq c.fn (wpAny_mono (run2 (A := X.A.in1) F hb I hr.in1 rfl q) (fun z s' hz => ?_) fun _ _ e => e)
  obtain ⟨z', H', I', rz, cc, rfl, q'⟩ := hz
  cases (show z = Value.bool cc from rz)
  exact ⟨cc, rfl, .bl (!cc), H', I', rfl, q'⟩
end
end WW

set_option Elab.async false
set_option linter.all false
set_option maxRecDepth 100000
set_option maxHeartbeats 4000000
namespace WW
open PySem PySem.Spec PyProof.Rows L2
/-! ### plain values and their kinds -/
def kinds : List String := ["NoneType", "bool", "int", "str", "list", "tuple", "dict"]
def Kd (K : PySem.W.Frag) (H : Hp) (x : V) (n : String) : Prop := TyX K H x (.type n) ∧ n ∈ kinds ∧ ∀ z, x = .str z → z.length ≤ sizeLine
theorem kit_int {K : PySem.W.Frag} {n : String} (h : n ∈ kinds) : PySem.W.kitOne K (.type n) (.type "int") = some (n == "int" || n == "bool") := by
  have : ∀ n ∈ kinds, kitB n "int" = some (n == "int" || n == "bool") := by decide +kernel
  exact kit_ty (this n h)
theorem kit_bool {K : PySem.W.Frag} {n : String} (h : n ∈ kinds) : PySem.W.kitOne K (.type n) (.type "bool") = some (n == "bool") := by
  have : ∀ n ∈ kinds, kitB n "bool" = some (n == "bool") := by decide +kernel
  exact kit_ty (this n h)
theorem kit_str {K : PySem.W.Frag} {n : String} (h : n ∈ kinds) : PySem.W.kitOne K (.type n) (.type "str") = some (n == "str") := by
  have : ∀ n ∈ kinds, kitB n "str" = some (n == "str") := by decide +kernel
  exact kit_ty (this n h)
theorem kit_list {K : PySem.W.Frag} {n : String} (h : n ∈ kinds) : PySem.W.kitOne K (.type n) (.type "list") = some (n == "list") := by
  have : ∀ n ∈ kinds, kitB n "list" = some (n == "list") := by decide +kernel
  exact kit_ty (this n h)
theorem kit_tuple {K : PySem.W.Frag} {n : String} (h : n ∈ kinds) : PySem.W.kitOne K (.type n) (.type "tuple") = some (n == "tuple") := by
  have : ∀ n ∈ kinds, kitB n "tuple" = some (n == "tuple") := by decide +kernel
  exact kit_ty (this n h)
theorem kit_row {K : PySem.W.Frag} {n : String} (h : n ∈ kinds) : PySem.W.kitAny K (.type n) [.type "list", .type "tuple"] = some (n == "list" || n == "tuple") := by
  refine kitAny_cons (kit_list h) (fun e => ?_) (fun e => by rw [e]; rfl)
  rw [e, Bool.false_or]
  refine kitAny_cons (kit_tuple h) (fun e2 => by rw [e2]; exact kitAny_nil) (fun e2 => e2)
theorem kd_int (K : PySem.W.Frag) (H : Hp) (i : Int) : Kd K H (.int i) "int" := ⟨.base (.int i), by decide, fun z e => by cases e⟩
theorem kd_str (K : PySem.W.Frag) (H : Hp) {z : Str} (h : z.length ≤ sizeLine) : Kd K H (.str z) "str" := ⟨.base (.str z), by decide, fun y e => by cases e; exact h⟩
theorem kd_tup (K : PySem.W.Frag) {H : Hp} {a : Addr} {xs : List V} (h : H a = some (.tup xs)) : Kd K H (.ref a) "tuple" := ⟨.base (.tup h), by decide, fun y e => by cases e⟩
theorem kd_lst (K : PySem.W.Frag) {H : Hp} {a : Addr} {xs : List V} (h : H a = some (.lst xs)) : Kd K H (.ref a) "list" := ⟨.base (.lst h), by decide, fun y e => by cases e⟩
theorem kd_is_int {K : PySem.W.Frag} {H : Hp} {x : V} (h : Kd K H x "int") : ∃ i, x = .int i := by
  obtain ⟨h, _⟩ := h
  generalize e : Value.type "int" = t at h
  cases h with
  | base b => cases b <;> first | exact ⟨_, rfl⟩ | exact absurd (Value.type.inj e) (by decide) | cases e
  | byt b => exact absurd (Value.type.inj e) (by decide)
  | set _ => exact absurd (Value.type.inj e) (by decide)
  | kList _ _ => exact absurd (Value.type.inj e) (by decide)
  | kTuple _ _ => exact absurd (Value.type.inj e) (by decide)
  | kDict _ _ => exact absurd (Value.type.inj e) (by decide)
  | fTuple _ => exact absurd (Value.type.inj e) (by decide)
  | fDict _ => exact absurd (Value.type.inj e) (by decide)
theorem kd_not_int {K : PySem.W.Frag} {H : Hp} {x : V} {n : String} (h : Kd K H x n) (hn : n ≠ "int") : ∀ i, x ≠ .int i := by
  rintro i rfl
  obtain ⟨h, _⟩ := h
  generalize e : Value.type n = t at h
  cases h with
  | base b =>
    cases b
    cases e
    exact hn rfl
theorem kd_is_str {K : PySem.W.Frag} {H : Hp} {x : V} (h : Kd K H x "str") : ∃ z, x = .str z := by
  obtain ⟨h, _⟩ := h
  generalize e : Value.type "str" = t at h
  cases h with
  | base b => cases b <;> first | exact ⟨_, rfl⟩ | exact absurd (Value.type.inj e) (by decide) | cases e
  | byt b => exact absurd (Value.type.inj e) (by decide)
  | set _ => exact absurd (Value.type.inj e) (by decide)
  | kList _ _ => exact absurd (Value.type.inj e) (by decide)
  | kTuple _ _ => exact absurd (Value.type.inj e) (by decide)
  | kDict _ _ => exact absurd (Value.type.inj e) (by decide)
  | fTuple _ => exact absurd (Value.type.inj e) (by decide)
  | fDict _ => exact absurd (Value.type.inj e) (by decide)
theorem kd_not_str {K : PySem.W.Frag} {H : Hp} {x : V} {n : String} (h : Kd K H x n) (hn : n ≠ "str") : ∀ z, x ≠ .str z := by
  rintro i rfl
  obtain ⟨h, _⟩ := h
  generalize e : Value.type n = t at h
  cases h with
  | base b =>
    cases b
    cases e
    exact hn rfl
def btw (lo hi : Int) : V → Bool
  | .int i => decide (lo ≤ i) && decide (i ≤ hi)
  | _ => false
def nmB (z : Str) : Bool := decide (1 ≤ z.length) && decide (z.length ≤ 10) && z.cps.toList.all fun c => decide (c ∈ smallS.cps.toList)
def isNm : V → Bool
  | .str z => nmB z
  | _ => false
structure Cst (mg : Str → Option Value) : Prop where
  small : ∃ t, mg "SMALL" = some (.str smallS t)
section
variable {P : Program} {w : World} {K : PySem.W.Frag} {mg : Str → Option Value} {base : Heap} {f fA : Addr} {fd fdA : FuncData}
abbrev sIs_integer : Stmt := topS 3
abbrev nIs_integer : List Str := ["thing"]
theorem scIs_integer : FnScope nIs_integer ["thing"] (defScope sIs_integer) := ⟨rfl, rfl, rfl, by decide +kernel, rfl, by decide +kernel, by decide +kernel⟩
def spIsInteger (K : PySem.W.Frag) : Sp := fun vs H Q _ => ∃ (x : V) (n : String), vs = [x] ∧ Kd K H x n ∧ Q (.bl (n == "int")) H
theorem ok_is_integer (D : Df K mg "is_integer" sIs_integer ["thing"] f fd) (T : Bl mg) : FnOk P w K mg base CX0 1 f fd ["thing"] (spIsInteger K) := by
  refine D.fn.ok scIs_integer (fun vs H Q E h => ?_) (fun cdv A outer s H vs Q E hr h => ?_)
  · obtain ⟨x, n, rfl, _⟩ := h
    rfl
  · obtain ⟨x, n, rfl, hk, q⟩ := h
    refine ⟨_, (pss_one (ps_ret (pe_and (pe_callB call_isi (by rfl) T.isinstance (by decide +kernel) (pa_cons (pv 0) (pa_cons (pe_bltn (v := .ty "int") (by rfl) T.int (by decide +kernel) rfl) pa_nil))) (pe_one (pe_not (pe_callB call_isi (by rfl) T.isinstance (by decide +kernel) (pa_cons (pv 0) (pa_cons (pe_bltn (v := .ty "bool") (by rfl) T.bool (by decide +kernel) rfl) pa_nil)))))))), ?_⟩
    refine ⟨_, rfl, _, _, _, _, _, rfl, .ty "int", hk.1, kit_int hk.2.1, _, rfl, ?_⟩
    refine ite2 (fun c => ?_) (fun c => ?_)
    · refine ⟨_, rfl, _, _, _, _, _, rfl, .ty "bool", hk.1, kit_bool hk.2.1, _, rfl, ?_⟩
      have e : (!(n == "bool")) = (n == "int") := by
        rcases Bool.or_eq_true_iff.mp c with h | h
        · rw [beq_iff_eq.mp h]
          decide
        · rw [beq_iff_eq.mp h]
          decide
      show Q (.bl (!(n == "bool"))) H
      rw [e]
      exact q
    · have e : (n == "int") = false := by
        cases h : n == "int" with
        | false => rfl
        | true => exact absurd (by rw [h]; rfl) c
      show Q (.bl false) H
      rw [← e]
      exact q
abbrev sIs_between : Stmt := topS 4
abbrev nIs_between : List Str := ["thing", "low", "high"]
theorem scIs_between : FnScope nIs_between ["thing", "low", "high"] (defScope sIs_between) := ⟨rfl, rfl, rfl, by decide +kernel, rfl, by decide +kernel, by decide +kernel⟩
def spIsBetween (K : PySem.W.Frag) : Sp := fun vs H Q _ => ∃ (x : V) (n : String) (lo hi : Int), vs = [x, .int lo, .int hi] ∧ Kd K H x n ∧ Q (.bl (btw lo hi x)) H
theorem ok_is_between {fB : Addr} {fdB : FuncData} (D : Df K mg "is_between" sIs_between ["thing", "low", "high"] f fd) (DIs_integer : Df K mg "is_integer" sIs_integer ["thing"] fB fdB) (T : Bl mg) : FnOk P w K mg base CX0 2 f fd ["thing", "low", "high"] (spIsBetween K) := by
  have GIs_integer : FnOk P w K mg base CX0 1 fB fdB ["thing"] (spIsInteger K) := ok_is_integer DIs_integer T
  refine D.fn.ok scIs_between (fun vs H Q E h => ?_) (fun cdv A outer s H vs Q E hr h => ?_)
  · obtain ⟨x, n, lo, hi, rfl, _⟩ := h
    rfl
  · obtain ⟨x, n, lo, hi, rfl, hk, q⟩ := h
    refine ⟨_, (pss_one (ps_ret (pe_and (pe_df DIs_integer GIs_integer (hr.mono (by decide)) (pa_cons (pv 0) pa_nil)) (pe_one (pe_chain op_le op_le (pv 1) (pv 0) (pv 2)))))), ?_⟩
    refine ⟨_, rfl, x, n, rfl, hk, _, rfl, ite2 (fun c => ?_) (fun c => ?_)⟩
    · have en : n = "int" := beq_iff_eq.mp c
      subst en
      obtain ⟨i, rfl⟩ := kd_is_int hk
      refine ⟨_, rfl, _, rfl, _, _, rfl, rfl, _, rfl, ?_⟩
      by_cases h1 : lo ≤ i
      · rw [decide_eq_true h1]
        refine ⟨_, rfl, _, _, rfl, rfl, ?_⟩
        have e : btw lo hi (.int i) = decide (i ≤ hi) := by
          show (decide (lo ≤ i) && decide (i ≤ hi)) = _
          rw [decide_eq_true h1]
          rfl
        rw [e] at q
        exact q
      · rw [decide_eq_false h1]
        have e : btw lo hi (.int i) = false := by
          show (decide (lo ≤ i) && decide (i ≤ hi)) = _
          rw [decide_eq_false h1]
          rfl
        rw [e] at q
        exact q
    · have e : btw lo hi x = false := by
        have hn := kd_not_int hk (fun z => c (by rw [z]; rfl))
        cases x with
        | int i => exact absurd rfl (hn i)
        | _ => rfl
      rw [e] at q
      exact q
abbrev sIs_state : Stmt := topS 5
abbrev nIs_state : List Str := ["thing"]
theorem scIs_state : FnScope nIs_state ["thing"] (defScope sIs_state) := ⟨rfl, rfl, rfl, by decide +kernel, rfl, by decide +kernel, by decide +kernel⟩
def spIsState (K : PySem.W.Frag) : Sp := fun vs H Q _ => ∃ (x : V) (n : String), vs = [x] ∧ Kd K H x n ∧ Q (.bl (btw 0 99 x)) H
theorem ok_is_state {fB fC : Addr} {fdB fdC : FuncData} (D : Df K mg "is_state" sIs_state ["thing"] f fd) (DIs_between : Df K mg "is_between" sIs_between ["thing", "low", "high"] fC fdC) (DIs_integer : Df K mg "is_integer" sIs_integer ["thing"] fB fdB) (T : Bl mg) : FnOk P w K mg base CX0 3 f fd ["thing"] (spIsState K) := by
  have GIs_between : FnOk P w K mg base CX0 2 fC fdC ["thing", "low", "high"] (spIsBetween K) := ok_is_between DIs_between DIs_integer T
  refine D.fn.ok scIs_state (fun vs H Q E h => ?_) (fun cdv A outer s H vs Q E hr h => ?_)
  · obtain ⟨x, n, rfl, _⟩ := h
    rfl
  · obtain ⟨x, n, rfl, hk, q⟩ := h
    refine ⟨_, (pss_one (ps_ret (pe_df DIs_between GIs_between (hr.mono (by decide)) (pa_cons (pv 0) (pa_cons pe_int (pa_cons pe_int pa_nil)))))), ?_⟩
    exact ⟨_, rfl, x, n, 0, 99, rfl, hk, q⟩
abbrev sIs_row : Stmt := topS 7
abbrev nIs_row : List Str := ["thing"]
theorem scIs_row : FnScope nIs_row ["thing"] (defScope sIs_row) := ⟨rfl, rfl, rfl, by decide +kernel, rfl, by decide +kernel, by decide +kernel⟩
def spIsRow (K : PySem.W.Frag) : Sp := fun vs H Q _ => ∃ (x : V) (n : String), vs = [x] ∧ Kd K H x n ∧ ∀ H', Same H H' → Q (.bl (n == "list" || n == "tuple")) H'
theorem tyx_mono {K : PySem.W.Frag} {H H' : Hp} {x : V} {t : Value} (s : Same H H') (h : TyX K H x t) : TyX K H' x t := by
  cases h with
  | base b =>
    cases b with
    | non => exact .base .non
    | bl x => exact .base (.bl x)
    | int x => exact .base (.int x)
    | str x => exact .base (.str x)
    | flt x => exact .base (.flt x)
    | lst e => exact .base (.lst (s _ _ e))
    | frz e => exact .base (.frz (s _ _ e))
    | tup e => exact .base (.tup (s _ _ e))
    | dK e => exact .base (.dK (s _ _ e))
    | dT e => exact .base (.dT (s _ _ e))
    | ins e cl ha hn htk hm => exact .base (.ins (s _ _ e) cl ha hn htk hm)
  | byt b => exact .byt b
  | set e => exact .set (s _ _ e)
  | kList e c => exact .kList e c
  | kTuple e c => exact .kTuple e c
  | kDict e c => exact .kDict e c
  | fTuple e => exact .fTuple (s _ _ e)
  | fDict e => exact .fDict (s _ _ e)
theorem Kd.mono {K : PySem.W.Frag} {H H' : Hp} {x : V} {n : String} (s : Same H H') (h : Kd K H x n) : Kd K H' x n := ⟨tyx_mono s h.1, h.2⟩
theorem ok_is_row (D : Df K mg "is_row" sIs_row ["thing"] f fd) (T : Bl mg) : FnOk P w K mg base CX0 1 f fd ["thing"] (spIsRow K) := by
  refine D.fn.ok scIs_row (fun vs H Q E h => ?_) (fun cdv A outer s H vs Q E hr h => ?_)
  · obtain ⟨x, n, rfl, _⟩ := h
    rfl
  · obtain ⟨x, n, rfl, hk, q⟩ := h
    refine ⟨_, (pss_one (ps_ret (pe_callB call_isiT (by rfl) T.isinstance (by decide +kernel) (pa_cons (pv 0) (pa_cons (pe_tup (pa_cons (pe_bltn (v := .ty "list") (by rfl) T.list (by decide +kernel) rfl) (pa_cons (pe_bltn (v := .ty "tuple") (by rfl) T.tuple (by decide +kernel) rfl) pa_nil))) pa_nil))))), ?_⟩
    refine ⟨_, rfl, by show 2 ≤ sizeLine; decide, fun t ht => ?_⟩
    refine ⟨x, t, _, _, [.type "list", .type "tuple"], _, rfl, upd_same, .cons (.ty "list") (.cons (.ty "tuple") .nil), tyx_mono (same_upd ht) hk.1, kit_row hk.2.1, q _ (same_upd ht)⟩
abbrev sIs_name : Stmt := topS 6
abbrev nIs_name : List Str := ["thing", "letter"]
theorem scIs_name : FnScope nIs_name ["thing"] (defScope sIs_name) := ⟨rfl, rfl, rfl, by decide +kernel, rfl, by decide +kernel, by decide +kernel⟩
def spIsName (K : PySem.W.Frag) : Sp := fun vs H Q _ => ∃ (x : V) (n : String), vs = [x] ∧ Kd K H x n ∧ ∀ H', Same H H' → Q (.bl (isNm x)) H'
def inSm (v : V) : Option V := match v with
  | .str ⟨#[c]⟩ => some (.bl (decide (c ∈ smallS.cps.toList)))
  | _ => none
theorem inSm_signs (z : Str) : (signs z).filterMap inSm = (z.cps.toList.map fun c => decide (c ∈ smallS.cps.toList)).map V.bl := by
  unfold signs
  induction z.cps.toList with
  | nil => rfl
  | cons c r ih =>
    simp only [List.map_cons, List.filterMap_cons]
    rw [ih]
    rfl
theorem ok_is_name (D : Df K mg "is_name" sIs_name ["thing"] f fd) (T : Bl mg) (C : Cst mg) : FnOk P w K mg base CX0 1 f fd ["thing"] (spIsName K) := by
  obtain ⟨tsm, hsm⟩ := C.small
  refine D.fn.ok scIs_name (fun vs H Q E h => ?_) (fun cdv A outer s H vs Q E hr h => ?_)
  · obtain ⟨x, n, rfl, _⟩ := h
    rfl
  · obtain ⟨x, n, rfl, hk, q⟩ := h
    refine ⟨_, (pss_cons (ps_if (PW.pt (pw_or (pt_not (pt_val (pe_callB call_isi (by rfl) T.isinstance (by decide +kernel) (pa_cons (pv 0) (pa_cons (pe_bltn (v := .ty "str") (by rfl) T.str (by decide +kernel) rfl) pa_nil))))) (pw_or1 (pt_not (pt_chain op_le op_le pe_int (pe_callB call_len (by rfl) T.len (by decide +kernel) (pa_cons (pv 0) pa_nil)) pe_int))))) (pss_one (ps_ret pe_bl)) pss_nil)
      (pss_one (ps_ret (pe_callB (cr_all rfl) (by rfl) T.all (by decide +kernel) (pa_cons (pe_lc (own := [("letter", 1)]) rfl scIs_name.nd (pi_str (pv 0)) (blkOk_by (own := [("letter", 1)]) (N := nIs_name) (sc := defScope sIs_name) (by decide +kernel)) (fun _ _ _ _ _ => (pg_name (i := 1) scIs_name.nd rfl (Or.inl rfl))) (fun _ _ _ _ _ => pts_nil) (fun _ _ _ _ _ => (pe_cmpR op_in_sign (pv 1) (pe_glob (v := .str smallS) (by rfl) hsm ⟨_, rfl⟩) (by rfl)))) pa_nil))))), ?_⟩
    refine ⟨_, rfl, _, _, _, _, _, rfl, .ty "str", hk.1, kit_str hk.2.1, _, rfl, ?_⟩
    by_cases en : n = "str"
    · subst en
      obtain ⟨z, rfl⟩ := kd_is_str hk
      have hl := hk.2.2 z rfl
      refine ⟨_, rfl, _, _, rfl, ⟨hl, rfl⟩, _, _, rfl, rfl, _, rfl, ?_⟩
      have e0 : isNm (.str z) = (decide (1 ≤ z.length) && decide (z.length ≤ 10) && z.cps.toList.all fun c => decide (c ∈ smallS.cps.toList)) := rfl
      by_cases h1 : (1 : Int) ≤ (z.length : Int)
      · rw [decide_eq_true h1]
        refine ⟨_, _, rfl, rfl, _, rfl, ?_⟩
        by_cases h2 : (z.length : Int) ≤ 10
        · rw [decide_eq_true h2]
          refine ⟨_, rfl, z, rfl, fun D1 hD1 => lc_pureS inSm (by omega) (fun _ => rfl) (fun y H2 hy s2 Q2 q2 => ?_) hD1 (fun H2 s2 h2' => ?_)⟩
          · obtain ⟨c, hc, rfl⟩ := List.mem_map.mp hy
            exact ⟨_, rfl, c, smallS, rfl, rfl, q2 H2 (Same.refl _)⟩
          · rw [inSm_signs] at h2'
            refine ⟨D1, _, rfl, SqL.of h2', ?_⟩
            rw [e0, decide_eq_true (show 1 ≤ z.length by omega), decide_eq_true (show z.length ≤ 10 by omega)] at q
            have := q H2 s2
            rw [List.all_map]
            exact this
        · rw [decide_eq_false h2]
          rw [e0, decide_eq_false (show ¬ z.length ≤ 10 by omega), Bool.and_false] at q
          exact q H (Same.refl _)
      · rw [decide_eq_false h1]
        rw [e0, decide_eq_false (show ¬ 1 ≤ z.length by omega)] at q
        exact ⟨_, rfl, q H (Same.refl _)⟩
    · have e1 : (n == "str") = false := beq_eq_false_iff_ne.mpr en
      have e2 : isNm x = false := by
        have hn := kd_not_str hk en
        cases x with
        | str z => exact absurd rfl (hn z)
        | _ => rfl
      rw [e1]
      rw [e2] at q
      exact q H (Same.refl _)
end
end WW

set_option Elab.async false
set_option linter.all false
set_option maxRecDepth 100000
set_option maxHeartbeats 4000000
namespace WW
open PySem PySem.Spec PyProof.Rows L2
/-! ### steps -/
abbrev Stp := Int × Str × Int
def StpOk (t : Stp) : Prop := (0 ≤ t.1 ∧ t.1 ≤ 99) ∧ NameOk t.2.1 ∧ (0 ≤ t.2.2 ∧ t.2.2 ≤ 99)
def stpV (t : Stp) : List V := [.int t.1, .str t.2.1, .int t.2.2]
/-- v is the tuple of the step t -/
def IsStp (H : Hp) (v : V) (t : Stp) : Prop := ∃ a, v = .ref a ∧ H a = some (.tup (stpV t))
theorem IsStp.mono {H H' : Hp} {v : V} {t : Stp} (s : Same H H') (h : IsStp H v t) : IsStp H' v t := by
  obtain ⟨a, e, h⟩ := h
  exact ⟨a, e, s _ _ h⟩
def encS (t : Stp) : PyData := .tuple [.int t.1, .str t.2.1, .int t.2.2]
theorem IsStp.dp {K : PySem.W.Frag} {H : Hp} {v : V} {t : Stp} (h : IsStp H v t) : Dp K H v (encS t) := by
  obtain ⟨a, rfl, h⟩ := h
  exact .tup (SqT.of h) (.cons (.int _) (.cons (.str _) (.cons (.int _) .nil)))
abbrev Stps (H : Hp) : List V → List Stp → Prop := Paired (IsStp H)
theorem Stps.mono {H H' : Hp} (s : Same H H') {xs : List V} {ts : List Stp} (h : Stps H xs ts) : Stps H' xs ts := L2.Paired.mapP h fun _ _ q => q.mono s
theorem paired_get {α β : Type} {R : α → β → Prop} : ∀ {xs : List α} {ts : List β} {i : Nat} {x : α}, Paired R xs ts → xs[i]? = some x → ∃ t, ts[i]? = some t ∧ R x t
  | _, _, _, _, .nil, e => by simp at e
  | _, _, 0, _, .cons r _, e => by simp at e; subst e; exact ⟨_, rfl, r⟩
  | _, _, i + 1, x, .cons _ t, e => by
    obtain ⟨u, h1, h2⟩ := paired_get (i := i) (x := x) t (by simpa using e)
    exact ⟨u, by simpa using h1, h2⟩
theorem Stps.take {H : Hp} : ∀ (i : Nat) {xs : List V} {ts : List Stp}, Stps H xs ts → Stps H (xs.take i) (ts.take i)
  | 0, _, _, _ => .nil
  | _ + 1, _, _, .nil => .nil
  | i + 1, _, _, .cons r t => .cons r (Stps.take i t)
theorem Stps.dpAll {K : PySem.W.Frag} {H : Hp} : ∀ {xs : List V} {ts : List Stp}, Stps H xs ts → DpAll K H xs (ts.map encS)
  | _, _, .nil => .nil
  | _, _, .cons r t => .cons r.dp (Stps.dpAll t)
theorem encS_eqv (t u : Stp) : PyData.eqv (encS t) (encS u) = decide (t = u) := by
  obtain ⟨a, b, c⟩ := t
  obtain ⟨a', b', c'⟩ := u
  have e : PyData.eqv (encS (a, b, c)) (encS (a', b', c')) = ((a == a') && ((b == b') && ((c == c') && true))) := by simp only [encS, PyData.eqv, PyData.eqvAll]
  rw [e]
  by_cases h : ((a, b, c) : Stp) = (a', b', c')
  · cases h
    simp
  · rw [decide_eq_false h]
    cases h1 : a == a' with
    | false => rfl
    | true =>
      cases h2 : b == b' with
      | false => rfl
      | true =>
        cases h3 : c == c' with
        | false => rfl
        | true => exact absurd (by rw [beq_iff_eq.mp h1, beq_iff_eq.mp h2, beq_iff_eq.mp h3]) h
theorem name_sok {z : Str} (h : NameOk z) : PyData.strOk z = true := by
  unfold PyData.strOk
  rw [Array.all_eq_true_iff_forall_mem]
  intro c hc
  have h1 : ∀ c ∈ smallS.cps.toList, c < 0x110000 := by decide +kernel
  exact decide_eq_true (h1 c (h.2.2 c (by simpa using hc)))
theorem encS_depth (t : Stp) : (encS t).depth = 1 := by simp [encS, PyData.depth, PyData.depthAll]
theorem encS_lay {t : Stp} (h : StpOk t) : (encS t).canLay0 = true := by simp [encS, PyData.canLay0, PyData.canLayAll0, name_sok h.2.1]
theorem encS_shaped {t : Stp} (h : StpOk t) : SeqAt.shaped (encS t) = true := by
  have hd := encS_depth t
  show ((encS t).canLay0 && decide ((encS t).depth ≤ 64)) = true
  rw [Bool.and_eq_true]
  exact ⟨encS_lay h, decide_eq_true (by omega)⟩
theorem encSs_lay : ∀ {ts : List Stp}, (∀ t ∈ ts, StpOk t) → PyData.canLayAll0 (ts.map encS) = true
  | [], _ => by simp [PyData.canLayAll0]
  | t :: r, h => by simp [PyData.canLayAll0, encS_lay (h t (by simp)), encSs_lay (ts := r) fun u hu => h u (by simp [hu])]
theorem encSs_depth : ∀ ts : List Stp, PyData.depthAll (ts.map encS) ≤ 2
  | [] => by simp [PyData.depthAll]
  | t :: r => by
    have h1 := encSs_depth r
    have h2 := encS_depth t
    simp only [List.map_cons, PyData.depthAll]
    omega
theorem encSs_shaped {ts : List Stp} (h : ∀ t ∈ ts, StpOk t) : SeqAt.shaped (.list (ts.map encS)) = true := by
  have h1 := encSs_depth ts
  show (PyData.canLay0 (.list (ts.map encS)) && decide (PyData.depth (.list (ts.map encS)) ≤ 64)) = true
  rw [Bool.and_eq_true]
  exact ⟨by simp only [PyData.canLay0]; exact encSs_lay h, decide_eq_true (by simp only [PyData.depth]; omega)⟩
theorem encTs_shaped {ts : List Stp} (h : ∀ t ∈ ts, StpOk t) : SeqAt.shaped (.tuple (ts.map encS)) = true := by
  have h1 := encSs_depth ts
  show (PyData.canLay0 (.tuple (ts.map encS)) && decide (PyData.depth (.tuple (ts.map encS)) ≤ 64)) = true
  rw [Bool.and_eq_true]
  exact ⟨by simp only [PyData.canLay0]; exact encSs_lay h, decide_eq_true (by simp only [PyData.depth]; omega)⟩
theorem any_encS (t : Stp) : ∀ ts : List Stp, ((ts.map encS).any fun z => PyData.eqv z (encS t)) = decide (t ∈ ts)
  | [] => by simp
  | u :: r => by
    rw [List.map_cons, List.any_cons, any_encS t r, encS_eqv]
    by_cases h : t = u
    · subst h
      simp
    · have h' : ¬ u = t := fun q => h q.symm
      simp [h, h']
theorem nmB_iff (z : Str) : nmB z = true ↔ NameOk z := by
  unfold nmB NameOk
  simp only [Bool.and_eq_true, decide_eq_true_eq, List.all_eq_true]
  constructor
  · rintro ⟨⟨h1, h2⟩, h3⟩
    exact ⟨h1, h2, h3⟩
  · rintro ⟨h1, h2, h3⟩
    exact ⟨⟨h1, h2⟩, h3⟩
/-- is_step's look at a thing -/
inductive StepQ (K : PySem.W.Frag) (H : Hp) : V → Bool → Prop
  | other {x : V} {n : String} : Kd K H x n → n ≠ "tuple" → StepQ K H x false
  | len {a : Addr} {xs : List V} : H a = some (.tup xs) → xs.length ≠ 3 → StepQ K H (.ref a) false
  | three {a : Addr} {u v y : V} {n1 n2 n3 : String} : H a = some (.tup [u, v, y]) → Kd K H u n1 → Kd K H v n2 → Kd K H y n3 → StepQ K H (.ref a) (btw 0 99 u && (isNm v && btw 0 99 y))
theorem IsStp.stepQ (K : PySem.W.Frag) {H : Hp} {v : V} {t : Stp} (h : IsStp H v t) (ok : StpOk t) : StepQ K H v true := by
  obtain ⟨a, rfl, h⟩ := h
  obtain ⟨⟨h1, h2⟩, h3, h4, h5⟩ := ok
  have q := StepQ.three (K := K) h (kd_int K H _) (kd_str K H (Nat.le_trans h3.2.1 (by decide))) (kd_int K H _)
  have e : (btw 0 99 (.int t.1) && (isNm (.str t.2.1) && btw 0 99 (.int t.2.2))) = true := by
    show (decide (0 ≤ t.1) && decide (t.1 ≤ 99) && (nmB t.2.1 && (decide (0 ≤ t.2.2) && decide (t.2.2 ≤ 99)))) = true
    rw [decide_eq_true h1, decide_eq_true h2, decide_eq_true h4, decide_eq_true h5, (nmB_iff _).mpr h3]
    rfl
  rw [e] at q
  exact q
structure Cst2 (mg : Str → Option Value) : Prop where
  ms : ∃ t, mg "MOST_STEPS" = some (.int 20 t)
  mo : ∃ t, mg "MOST_FROM_ONE" = some (.int 3 t)
section
variable {P : Program} {w : World} {K : PySem.W.Frag} {mg : Str → Option Value} {base : Heap} {f fA fB : Addr} {fd fdA fdB : FuncData}
abbrev sIs_step : Stmt := topS 15
abbrev nIs_step : List Str := ["thing"]
theorem scIs_step : FnScope nIs_step ["thing"] (defScope sIs_step) := ⟨rfl, rfl, rfl, by decide +kernel, rfl, by decide +kernel, by decide +kernel⟩
def spIsStep (K : PySem.W.Frag) : Sp := fun vs H Q _ => ∃ (x : V) (b : Bool), vs = [x] ∧ StepQ K H x b ∧ ∀ H', Same H H' → Q (.bl b) H'
theorem ok_is_step (D : Df K mg "is_step" sIs_step ["thing"] f fd) (DIs_state : Df K mg "is_state" sIs_state ["thing"] fA fdA) (GIs_state : FnOk P w K mg base CX0 3 fA fdA ["thing"] (spIsState K))
    (DIs_name : Df K mg "is_name" sIs_name ["thing"] fB fdB) (GIs_name : FnOk P w K mg base CX0 1 fB fdB ["thing"] (spIsName K)) (T : Bl mg) : FnOk P w K mg base CX0 4 f fd ["thing"] (spIsStep K) := by
  refine D.fn.ok scIs_step (fun vs H Q E h => ?_) (fun cdv A outer s H vs Q E hr h => ?_)
  · obtain ⟨x, b, rfl, _⟩ := h
    rfl
  · obtain ⟨x, b, rfl, hk, q⟩ := h
    refine ⟨_, (pss_cons (ps_if (PW.pt (pw_or (pt_not (pt_val (pe_callB call_isi (by rfl) T.isinstance (by decide +kernel) (pa_cons (pv 0) (pa_cons (pe_bltn (v := .ty "tuple") (by rfl) T.tuple (by decide +kernel) rfl) pa_nil))))) (pw_or1 (pt_cmpR op_ne (pe_callB call_len (by rfl) T.len (by decide +kernel) (pa_cons (pv 0) pa_nil)) pe_int (nomark _))))) (pss_one (ps_ret pe_bl)) pss_nil)
      (pss_one (ps_ret (pe_and (pe_df DIs_state GIs_state (hr.mono (by decide)) (pa_cons (pe_ix ix_tup (pv 0) pe_int (fun _ _ => rfl)) pa_nil)) (pe_and (pe_df DIs_name GIs_name (hr.mono (by decide)) (pa_cons (pe_ix ix_tup (pv 0) pe_int (fun _ _ => rfl)) pa_nil)) (pe_one (pe_df DIs_state GIs_state (hr.mono (by decide)) (pa_cons (pe_ix ix_tup (pv 0) pe_int (fun _ _ => rfl)) pa_nil)))))))), ?_⟩
    cases hk with
    | @other x n hk hn =>
      refine ⟨_, rfl, _, _, _, _, _, rfl, .ty "tuple", hk.1, kit_tuple hk.2.1, _, rfl, ?_⟩
      rw [beq_eq_false_iff_ne.mpr hn]
      exact q H (Same.refl _)
    | @len a xs ha hl =>
      refine ⟨_, rfl, _, _, _, _, _, rfl, .ty "tuple", (kd_tup K ha).1, kit_tuple (kd_tup K ha).2.1, _, rfl, ?_⟩
      refine ⟨_, rfl, _, _, rfl, .inr ⟨_, SqT.of ha, rfl⟩, rfl, _, rfl, ?_⟩
      rw [decide_eq_false (show ¬ V.int (xs.length : Int) = V.int 3 from fun e => hl (by injection e; omega))]
      exact q H (Same.refl _)
    | @three a u v y n1 n2 n3 ha k1 k2 k3 =>
      refine ⟨_, rfl, _, _, _, _, _, rfl, .ty "tuple", (kd_tup K ha).1, kit_tuple (kd_tup K ha).2.1, _, rfl, ?_⟩
      refine ⟨_, rfl, _, _, rfl, .inr ⟨_, SqT.of ha, rfl⟩, rfl, _, rfl, ?_⟩
      refine ⟨_, rfl, a, _, 0, _, rfl, rfl, SqT.of ha, atI_nat (j := 0) rfl, u, n1, rfl, k1, _, rfl, ?_⟩
      cases c1 : btw 0 99 u with
      | false =>
        rw [c1] at q
        exact q H (Same.refl _)
      | true =>
        refine ⟨_, rfl, a, _, 1, _, rfl, rfl, SqT.of ha, atI_nat (j := 1) rfl, v, n2, rfl, k2, fun H1 s1 => ⟨_, rfl, ?_⟩⟩
        cases c2 : isNm v with
        | false =>
          rw [c1, c2] at q
          exact q H1 s1
        | true =>
          rw [c1, c2] at q
          exact ⟨_, rfl, a, _, 2, _, rfl, rfl, SqT.of (s1 _ _ ha), atI_nat (j := 2) rfl, y, n3, rfl, k3.mono s1, q H1 s1⟩

/-! ### good_steps, where nothing is wrong -/
def fstV (H : Hp) (i : Int) (v : V) : Option V := match v with
  | .ref a => match H a with
    | some (.tup (.int j :: _)) => if decide (V.int j = V.int i) = true then some v else none
    | _ => none
  | _ => none
def cnt (i : Int) (ts : List Stp) : Nat := (ts.filter fun t => decide (t.1 = i)).length
theorem fstV_len {H : Hp} (i : Int) : ∀ {xs : List V} {ts : List Stp}, Stps H xs ts → (xs.filterMap (fstV H i)).length = cnt i ts
  | _, _, .nil => rfl
  | _, _, .cons (a := v) (b := t) r q => by
    have ih := fstV_len i q
    obtain ⟨a, rfl, ha⟩ := r
    have e : fstV H i (.ref a) = if decide (V.int t.1 = V.int i) = true then some (.ref a) else none := by
      unfold fstV
      simp only [ha, stpV]
    unfold cnt at ih ⊢
    rw [List.filterMap_cons, e, List.filter_cons]
    by_cases h : t.1 = i
    · rw [if_pos (by simp [h]), if_pos (by simp [h])]
      simp [ih]
    · rw [if_neg (by simp [h]), if_neg (by simp [h])]
      exact ih
/-- the steps are good: of the right form, none twice, at most three from one state -/
structure GoodS (ts : List Stp) : Prop where
  l1 : 1 ≤ ts.length
  l2 : ts.length ≤ 20
  ok : ∀ t ∈ ts, StpOk t
  nd : ts.Nodup
  few : ∀ i t, ts[i]? = some t → cnt t.1 (ts.take i) ≠ 3
theorem take_next {α : Type} {l : List α} {i : Nat} {x : α} (h : l[i]? = some x) : l.take (i + 1) = l.take i ++ [x] := by
  rw [List.take_add_one, h]
  rfl
theorem not_before {ts : List Stp} (nd : ts.Nodup) {i : Nat} {t : Stp} (h : ts[i]? = some t) : t ∉ ts.take i := fun m => by
  obtain ⟨j, hj, e⟩ := List.mem_take_iff_getElem.mp m
  obtain ⟨hi, e2⟩ := List.getElem?_eq_some_iff.mp h
  have := (List.getElem_inj (h₀ := by omega) (h₁ := hi) nd).mp (e.trans e2.symm)
  omega
/-- a row: a list or a tuple -/
def RowAt (H : Hp) (a : Addr) (xs : List V) : Prop := H a = some (.lst xs) ∨ H a = some (.tup xs)
theorem RowAt.mono {H H' : Hp} {a : Addr} {xs : List V} (s : Same H H') (h : RowAt H a xs) : RowAt H' a xs := h.imp (s _ _) (s _ _)
/-- for i, x in enumerate(row) -/
theorem for_enum {K : PySem.W.Frag} {a : Addr} {xs : List V} {g : TG} {tb : TS} {D : Ends} {σ : L2.St} {H : Hp} (Pv : Nat → L2.St → Hp → Prop) {o : HO} (ho : o = .lst xs ∨ o = .tup xs) (hrow : H a = some o) (h0 : Pv 0 σ H) (hl : ∀ i σ H, Pv i σ H → H a = some o)
    (hs : ∀ i x T σ H, xs[i]? = some x → Pv i σ H → H T = none → g (.ref T) σ (upd H T (.tup [.int (i : Nat), x])) fun σ2 H2 => tb { D with nx := Pv (i + 1), ct := Pv (i + 1), bk := D.nx } σ2 H2) (hd : ∀ σ H, Pv xs.length σ H → D.nx σ H) :
    (∃ a' xs', [V.ref a] = [V.ref a'] ∧ SqL K H a' xs' ∧ ∃ W : Nat → Nat → L2.St → Hp → Prop, (∃ m, W 0 m σ H) ∧ ∀ i m σ H, W i m σ H →
      ((Ite K a').stop i H ∧ D.nx σ H) ∨ ((Ite K a').go i H ∧ ∃ N : L2.St → Hp → Prop, (∀ σ' H', N σ' H' → ∃ m', m' < m ∧ W (i + 1) m' σ' H') ∧ ∀ x H', (Ite K a').yld i H x H' → g x σ H' fun σ2 H2 => tb { D with nx := N, ct := N, bk := D.nx } σ2 H2)) ∨
    (∃ a' xs', [V.ref a] = [V.ref a'] ∧ SqT K H a' xs' ∧ ∃ W : Nat → Nat → L2.St → Hp → Prop, (∃ m, W 0 m σ H) ∧ ∀ i m σ H, W i m σ H →
      ((Itet K a').stop i H ∧ D.nx σ H) ∨ ((Itet K a').go i H ∧ ∃ N : L2.St → Hp → Prop, (∀ σ' H', N σ' H' → ∃ m', m' < m ∧ W (i + 1) m' σ' H') ∧ ∀ x H', (Itet K a').yld i H x H' → g x σ H' fun σ2 H2 => tb { D with nx := N, ct := N, bk := D.nx } σ2 H2)) := by
  rcases ho with rfl | rfl
  · refine .inl ⟨a, xs, rfl, SqL.of hrow, fun i m σ H => m = xs.length - i ∧ i ≤ xs.length ∧ Pv i σ H, ⟨_, rfl, Nat.zero_le _, h0⟩, ?_⟩
    rintro i m σ H ⟨rfl, hi, p⟩
    have hr := hl i σ H p
    by_cases h : i < xs.length
    · refine .inr ⟨⟨xs, xs[i], SqL.of hr, List.getElem?_eq_getElem h⟩, Pv (i + 1), fun σ' H' z => ⟨_, by omega, rfl, by omega, z⟩, ?_⟩
      rintro v H' ⟨T, x, rfl, nT, rfl, hx⟩
      exact hs i x T σ H (hx xs (SqL.of hr)) p nT
    · have e : i = xs.length := by omega
      subst e
      exact .inl ⟨⟨xs, SqL.of hr, Nat.le_refl _⟩, hd σ H p⟩
  · refine .inr ⟨a, xs, rfl, SqT.of hrow, fun i m σ H => m = xs.length - i ∧ i ≤ xs.length ∧ Pv i σ H, ⟨_, rfl, Nat.zero_le _, h0⟩, ?_⟩
    rintro i m σ H ⟨rfl, hi, p⟩
    have hr := hl i σ H p
    by_cases h : i < xs.length
    · refine .inr ⟨⟨xs, xs[i], SqT.of hr, List.getElem?_eq_getElem h⟩, Pv (i + 1), fun σ' H' z => ⟨_, by omega, rfl, by omega, z⟩, ?_⟩
      rintro v H' ⟨T, x, rfl, nT, rfl, hx⟩
      exact hs i x T σ H (hx xs (SqT.of hr)) p nT
    · have e : i = xs.length := by omega
      subst e
      exact .inl ⟨⟨xs, SqT.of hr, rfl⟩, hd σ H p⟩
abbrev sGood_steps : Stmt := topS 16
abbrev nGood_steps : List Str := ["steps", "kept", "at", "step", "old"]
theorem scGood_steps : FnScope nGood_steps ["steps"] (defScope sGood_steps) := ⟨rfl, rfl, rfl, by decide +kernel, rfl, by decide +kernel, by decide +kernel⟩
def spGood : Sp := fun vs H Q _ => ∃ (a : Addr) (xs : List V) (ts : List Stp), vs = [.ref a] ∧ RowAt H a xs ∧ Stps H xs ts ∧ GoodS ts ∧ ∀ p H', H p = none → Same H H' → H' p = some (.tup xs) → Q (.ref p) H'
theorem ok_good {fC : Addr} {fdC : FuncData} (D : Df K mg "good_steps" sGood_steps ["steps"] f fd) (DIs_row : Df K mg "is_row" sIs_row ["thing"] fA fdA) (GIs_row : FnOk P w K mg base CX0 1 fA fdA ["thing"] (spIsRow K))
    (DIs_step : Df K mg "is_step" sIs_step ["thing"] fB fdB) (GIs_step : FnOk P w K mg base CX0 4 fB fdB ["thing"] (spIsStep K)) (T : Bl mg) (C : Cst2 mg) : FnOk P w K mg base CX0 5 f fd ["steps"] spGood := by
  obtain ⟨t1, hms⟩ := C.ms
  obtain ⟨t2, hmo⟩ := C.mo
  refine D.fn.ok scGood_steps (fun vs H Q E h => ?_) (fun cdv A outer s H vs Q E hr h => ?_)
  · obtain ⟨a, xs, ts, rfl, _⟩ := h
    rfl
  · obtain ⟨a, xs, ts, rfl, hrow, hx, G, q⟩ := h
    refine ⟨_, (pss_cons (ps_if (PW.pt (pw_or (pt_not (pt_val (pe_df DIs_row GIs_row (hr.mono (by decide)) (pa_cons (pv 0) pa_nil)))) (pw_or1 (pt_not (pt_chain op_le op_le pe_int (pe_callB call_len (by rfl) T.len (by decide +kernel) (pa_cons (pv 0) pa_nil)) (pe_glob (v := .int 20) (by rfl) hms ⟨_, rfl⟩)))))) (pss_one ps_never) pss_nil)
      (pss_cons (ps_set (i := 1) scGood_steps.nd rfl (Or.inl rfl) (pe_lst pa_nil))
      (pss_cons (ps_for PassesOwn.never rfl (pi_enumD (by rfl) T.enumerate (pa_cons (pv 0) pa_nil)) (pg_tup rfl (pgs_cons (pg_name (i := 2) scGood_steps.nd rfl (Or.inl rfl)) (pgs_cons (pg_name (i := 3) scGood_steps.nd rfl (Or.inr rfl)) pgs_nil))) (pss_cons (ps_if (PW.pt (pw_or (pt_not (pt_val (pe_df DIs_step GIs_step (hr.mono (by decide)) (pa_cons (pv 3) pa_nil)))) (pw_or1 (pt_cmpR (op_inD (hu65 hr)) (pv 3) (pv 1) (by rfl))))) (pss_one ps_never) pss_nil)
      (pss_cons (ps_if (pt_cmpR op_eq (pe_callB call_len (by rfl) T.len (by decide +kernel) (pa_cons (pe_lc (own := [("old", 4)]) rfl scGood_steps.nd (pi_list (pv 1)) (blkOk_by (own := [("old", 4)]) (N := nGood_steps) (sc := defScope sGood_steps) (by decide +kernel)) (fun _ _ _ _ _ => (pg_name (i := 4) scGood_steps.nd rfl (Or.inl rfl))) (fun _ _ _ _ _ => (pts_one (pt_cmpR op_eq (pe_ix (r := rIxT K) ix_tup (pv 4) pe_int (fun _ _ => rfl)) (pe_ix (r := rIxT K) ix_tup (pv 3) pe_int (fun _ _ => rfl)) (nomark _)))) (fun _ _ _ _ _ => (pv 4))) pa_nil)) (pe_glob (v := .int 3) (by rfl) hmo ⟨_, rfl⟩) (nomark _)) (pss_one ps_never) pss_nil)
      (pss_one (ps_expr (pe_bm PySem.F.plainAttrs_list PySem.F.slot_list_append PySem.F.type_list_append mt_append (pv 1) (pa_cons (pv 3) pa_nil)))))))
      (pss_one (ps_ret (pe_callTy call_tuple_of (by rfl) T.tuple (by decide +kernel) (pa_cons (pv 1) pa_nil))))))), ?_⟩
    have hlx : xs.length = ts.length := Paired.length hx
    have hl1 := G.l1
    have hl2 := G.l2
    obtain ⟨n, hk, hn⟩ : ∃ n, Kd K H (.ref a) n ∧ (n == "list" || n == "tuple") = true := by
      rcases hrow with h | h
      · exact ⟨_, kd_lst K h, rfl⟩
      · exact ⟨_, kd_tup K h, rfl⟩
    refine ⟨_, rfl, _, n, rfl, hk, fun H1 s1 => ?_⟩
    rw [hn]
    have row1 := hrow.mono s1
    refine ⟨_, rfl, ?_⟩
    refine ⟨_, rfl, _, xs.length, rfl, ?_, _, _, rfl, rfl, _, rfl, ?_⟩
    · rcases row1 with h | h
      · exact .inl ⟨_, SqL.of h, rfl⟩
      · exact .inr ⟨_, SqT.of h, rfl⟩
    rw [decide_eq_true (show (1 : Int) ≤ (xs.length : Int) by omega)]
    refine ⟨_, _, rfl, rfl, _, rfl, ?_⟩
    rw [decide_eq_true (show (xs.length : Int) ≤ 20 by omega)]
    refine ⟨Nat.zero_le _, fun l hl => ?_⟩
    have nal : a ≠ l := fun z => by
      rcases row1 with h | h
      · exact (ne_of_none h hl) z
      · exact (ne_of_none h hl) z
    obtain ⟨o, ho, hao⟩ : ∃ o, (o = HO.lst xs ∨ o = HO.tup xs) ∧ H1 a = some o := by
      rcases row1 with h | h
      · exact ⟨_, .inl rfl, h⟩
      · exact ⟨_, .inr rfl, h⟩
    have sl : Same H1 (upd H1 l (.lst [])) := same_upd hl
    refine ⟨_, rfl, for_enum (K := K) (a := a) (xs := xs) (fun i σ H' => ∃ v2 v3 v4, σ = [some (.ref a), some (.ref l), v2, v3, v4] ∧ Same H1 H' ∧ H' l = some (.lst (xs.take i)) ∧ i ≤ xs.length) ho (sl _ _ hao) ?_ ?_ ?_ ?_⟩
    · exact ⟨none, none, none, rfl, sl, upd_same, Nat.zero_le _⟩
    · rintro i σ H' ⟨_, _, _, _, sm, _⟩
      exact sm _ _ hao
    · rintro i x T' σ H' hi ⟨v2, v3, v4, rfl, sm, hl', hil⟩ nT
      obtain ⟨t, ht, hxt⟩ := paired_get hx hi
      have sT : Same H' (upd H' T' (.tup [.int (i : Nat), x])) := same_upd nT
      have htm : t ∈ ts := List.mem_of_getElem? ht
      have hok := G.ok t htm
      refine ⟨T', _, rfl, SqT.of upd_same, rfl, _, _, rfl, _, _, rfl, rfl, ?_⟩
      have sH : Same H (upd H' T' (.tup [.int (i : Nat), x])) := s1.trans (sm.trans sT)
      have hlT := sT _ _ hl'
      have hx2 : Stps (upd H' T' (.tup [.int (i : Nat), x])) (xs.take i) (ts.take i) := Stps.take i (hx.mono sH)
      have sm2 : Same H1 (upd H' T' (.tup [.int (i : Nat), x])) := sm.trans sT
      generalize upd H' T' (.tup [.int (i : Nat), x]) = H2 at sH hlT hx2 sm2 ⊢
      refine ⟨_, rfl, x, true, rfl, (hxt.mono sH).stepQ K hok, fun H3 s3 => ⟨_, rfl, ?_⟩⟩
      refine ⟨_, rfl, _, rfl, _, _, (hxt.mono (sH.trans s3)).dp, .lst (SqL.of (s3 _ _ hlT)) (Stps.dpAll (hx2.mono s3)), encS_shaped hok, encSs_shaped (fun u hu => G.ok u (List.mem_of_mem_take hu)), _, rfl, ?_⟩
      rw [any_encS, decide_eq_false (not_before G.nd ht)]
      have hl3 := s3 _ _ hlT
      have hx3 := hx2.mono s3
      have hxt3 := hxt.mono (sH.trans s3)
      obtain ⟨at3, rfl, ht3⟩ := id hxt3
      refine ⟨_, rfl, l, rfl, ⟨_, SqL.of hl3⟩, fun D1 hD1 => lc_pure (fstV H3 t.1) (SqL.of hl3) (by rw [List.length_take]; omega) (fun _ => rfl) (fun x0 H4 hx0 s4 Q4 q4 => ?_) hD1 (fun H4 s4 h4 => ?_)⟩
      · obtain ⟨t0, _, a0, rfl, ha0⟩ := paired_memL hx3 x0 hx0
        have e0 : fstV H3 t.1 (.ref a0) = if decide (V.int t0.1 = V.int t.1) = true then some (.ref a0) else none := by
          unfold fstV
          simp only [ha0, stpV]
        refine ⟨_, rfl, a0, _, 0, _, rfl, rfl, SqT.of (s4 _ _ ha0), atI_nat (j := 0) rfl, _, rfl, at3, _, 0, _, rfl, rfl, SqT.of (s4 _ _ ht3), atI_nat (j := 0) rfl, rfl, _, rfl, ite2 (fun c => ⟨_, rfl, ?_⟩) (fun c => ?_)⟩
        · have := q4 H4 (Same.refl _)
          rw [e0, if_pos c] at this
          exact this
        · have := q4 H4 (Same.refl _)
          rw [e0, if_neg c] at this
          exact this
      · have hlen := fstV_len (H := H3) t.1 hx3
        refine ⟨_, _, rfl, .inl ⟨_, SqL.of h4, rfl⟩, rfl, _, rfl, ?_⟩
        rw [decide_eq_false (show ¬ V.int (((xs.take i).filterMap (fstV H3 t.1)).length : Int) = V.int 3 from fun e => by
          have e1 := V.int.inj e
          rw [hlen] at e1
          exact G.few i t ht (by omega))]
        refine ⟨_, rfl, .inl ⟨rfl, _, SqL.of (s4 _ _ hl3)⟩, _, rfl, l, _, _, rfl, rfl, s4 _ _ hl3, small1000 (by rw [List.length_take]; omega), ?_⟩
        refine ⟨_, _, _, rfl, fun b ob hb => ?_, by rw [upd_same, take_next hi], by have := (List.getElem?_eq_some_iff.mp hi).1; omega⟩
        rw [upd_ne (ne_of_none hb hl)]
        exact s4 _ _ (s3 _ _ (sm2 _ _ hb))
    · rintro σ H' ⟨v2, v3, v4, rfl, sm, hl', hil⟩
      rw [List.take_length] at hl'
      refine ⟨_, rfl, l, _, rfl, .inl ⟨SqL.of hl', fun p hp => ?_⟩⟩
      exact q p _ ((s1.trans sm).free hp) ((s1.trans sm).trans (same_upd hp)) upd_same
end
end WW

set_option Elab.async false
set_option linter.all false
set_option maxRecDepth 100000
set_option maxHeartbeats 4000000
namespace WW
open PySem PySem.Spec PyProof.Rows L2
theorem hu70 {A : Around} {k : Nat} (hr : Room k A) : A.units + 70 < cLine := by
  have := hr.un
  omega
/-! ### texts in order -/
def leS (a b : Str) : Bool := decide (a.cps.toList ≤ b.cps.toList)
theorem str_ext {a b : Str} (h : a.cps.toList = b.cps.toList) : a = b := by
  cases a with
  | mk x =>
    cases b with
    | mk y =>
      have : x = y := Array.toList_inj.mp h
      rw [this]
theorem leS_trans : ∀ x y z, leS x y = true → leS y z = true → leS x z = true := fun x y z h1 h2 => decide_eq_true (List.le_trans (of_decide_eq_true h1) (of_decide_eq_true h2))
theorem leS_total : ∀ x y, (leS x y || leS y x) = true := fun x y => by
  rw [Bool.or_eq_true]
  rcases List.le_total x.cps.toList y.cps.toList with h | h
  · exact .inl (decide_eq_true h)
  · exact .inr (decide_eq_true h)
theorem leS_anti : ∀ x y, leS x y = true → leS y x = true → x = y := fun x y h1 h2 => str_ext (List.le_antisymm (of_decide_eq_true h1) (of_decide_eq_true h2))
theorem sortS_perm {l l' : List Str} (h : l.Perm l') : l.mergeSort leS = l'.mergeSort leS := by
  refine PySem.W.Srt.the_of_perm leS leS_trans leS_total leS_anti ((List.mergeSort_perm l leS).trans h) ?_
  exact List.pairwise_mergeSort leS_trans leS_total l
theorem srtD_strs (ys : List Str) : srtD (ys.map fun z => (V.str z, PyData.str z)) = (ys.mergeSort leS).map V.str := by
  unfold srtD
  have e : ((ys.map fun z => (V.str z, PyData.str z)).mergeSort (PySem.W.dataLe false fun z : V × PyData => z.2)) = (ys.mergeSort leS).map fun z => (V.str z, PyData.str z) := by
    refine (PySem.W.sort_maps (fun z => (V.str z, PyData.str z)) fun a _ b _ => ?_).symm
    have := congrFun (congrFun (PySem.W.dataLe_str (fun z : Str => z)) a) b
    exact this.symm
  rw [e, List.map_map]
  rfl
theorem mem_insG {κ : Type} [DecidableEq κ] {k x : κ} {ks : List κ} : x ∈ insG k ks ↔ x = k ∨ x ∈ ks := by
  unfold insG
  by_cases h : k ∈ ks
  · rw [if_pos h]
    exact ⟨.inr, fun z => z.elim (fun e => e ▸ h) id⟩
  · rw [if_neg h, List.mem_cons]
theorem nodup_insG {κ : Type} [DecidableEq κ] {k : κ} {ks : List κ} (n : ks.Nodup) : (insG k ks).Nodup := by
  unfold insG
  by_cases h : k ∈ ks
  · rw [if_pos h]
    exact n
  · rw [if_neg h]
    exact List.nodup_cons.mpr ⟨h, n⟩
def ddS (l : List Str) : List Str := l.foldr insG []
theorem mem_ddS {x : Str} : ∀ {l : List Str}, x ∈ ddS l ↔ x ∈ l
  | [] => Iff.rfl
  | y :: r => by
    show x ∈ insG y (ddS r) ↔ _
    rw [mem_insG, mem_ddS, List.mem_cons]
theorem nodup_ddS : ∀ (l : List Str), (ddS l).Nodup
  | [] => List.nodup_nil
  | y :: r => nodup_insG (nodup_ddS r)
theorem insG_inr (z : Str) (ks : List Str) : insG (Sum.inr z : Key) (ks.map Sum.inr) = (insG z ks).map Sum.inr := by
  have e : (Sum.inr z : Key) ∈ ks.map Sum.inr ↔ z ∈ ks := by
    rw [List.mem_map]
    exact ⟨fun ⟨y, hy, q⟩ => Sum.inr.inj q ▸ hy, fun h => ⟨z, h, rfl⟩⟩
  unfold insG
  by_cases h : z ∈ ks
  · rw [if_pos h, if_pos (e.mpr h)]
  · rw [if_neg h, if_neg (fun q => h (e.mp q))]
    rfl
/-- the words of steps, ascending -/
def wordsOf (ts : List Stp) : List Str := (ddS (ts.map (·.2.1))).mergeSort leS
theorem nodup_mem_perm {α : Type} [DecidableEq α] : ∀ {l l' : List α}, l.Nodup → l'.Nodup → (∀ x, x ∈ l ↔ x ∈ l') → l.Perm l'
  | [], l', _, _, h => by
    cases l' with
    | nil => exact .nil
    | cons x r => exact absurd ((h x).mpr (by simp)) (by simp)
  | x :: r, l', n1, n2, h => by
    have hx : x ∈ l' := (h x).mp (by simp)
    refine List.Perm.trans (List.Perm.cons x ?_) (List.perm_cons_erase hx).symm
    refine nodup_mem_perm (List.nodup_cons.mp n1).2 (n2.erase x) fun y => ?_
    rw [n2.mem_erase_iff]
    constructor
    · intro hy
      exact ⟨fun e => (List.nodup_cons.mp n1).1 (e ▸ hy), (h y).mp (by simp [hy])⟩
    · rintro ⟨e, hy⟩
      rcases List.mem_cons.mp ((h y).mpr hy) with q | q
      · exact absurd q e
      · exact q
theorem words_any {ts : List Stp} {ks : List Str} (nd : ks.Nodup) (h : ∀ z, z ∈ ks ↔ z ∈ ts.map (·.2.1)) : ks.mergeSort leS = wordsOf ts :=
  sortS_perm (nodup_mem_perm nd (nodup_ddS _) fun z => by rw [h, mem_ddS])
theorem words_perm {ts ts' : List Stp} (h : ts.Perm ts') : wordsOf ts = wordsOf ts' :=
  words_any (ts := ts') (nodup_ddS _) fun z => by rw [mem_ddS]; exact (h.map _).mem_iff
/-! ### steps in order -/
def leT (a b : Stp) : Bool := PySem.W.dataLe false encS a b
def sortT (ts : List Stp) : List Stp := ts.mergeSort leT
theorem ltS (x y x' y' : Int) (u u' : Str) : PySem.W.dataLt (encS (x, u, y)) (encS (x', u', y')) = if x = x' then (if u = u' then decide (y < y') else decide (u.cps.toList < u'.cps.toList)) else decide (x < x') := by
  have e0 : PyProof.Rows.lexLt itemOrd (PySem.W.keyToksAll []) (PySem.W.keyToksAll []) = false := lex_irrefl _
  unfold encS
  rw [PySem.W.dataLt_tuple, PySem.W.dataLt_cons (by simp [PySem.W.alike]), PySem.W.dataLt_cons (by simp [PySem.W.alike]), PySem.W.dataLt_cons (by simp [PySem.W.alike]), e0, PySem.W.dataLt_int, PySem.W.dataLt_int, PySem.W.dataLt_str]
  simp only [PyData.eqv, beq_iff_eq]
  by_cases h1 : x = x'
  · rw [if_pos h1, if_pos h1]
    by_cases h2 : u = u'
    · rw [if_pos h2, if_pos h2]
      by_cases h3 : y = y'
      · rw [if_pos h3, h3]
        simp
      · rw [if_neg h3]
    · rw [if_neg h2, if_neg h2]
  · rw [if_neg h1, if_neg h1]
theorem leT_total : ∀ x y, (leT x y || leT y x) = true := fun x y => by
  have h := (PySem.W.sortLe_total (listOrd itemOrd) false (fun b : Stp => PySem.W.keyToks (encS b))).total x y
  rw [Bool.or_eq_true]
  exact h
theorem leT_trans : ∀ x y z, leT x y = true → leT y z = true → leT x z = true := fun x y z =>
  (PySem.W.sortLe_total (listOrd itemOrd) false (fun b : Stp => PySem.W.keyToks (encS b))).trans x y z
theorem leT_anti : ∀ x y, leT x y = true → leT y x = true → x = y := fun x y h1 h2 => by
  have e1 : PySem.W.dataLt (encS y) (encS x) = false := by
    have q : (!PySem.W.dataLt (encS y) (encS x)) = true := h1
    simpa using q
  have e2 : PySem.W.dataLt (encS x) (encS y) = false := by
    have q : (!PySem.W.dataLt (encS x) (encS y)) = true := h2
    simpa using q
  obtain ⟨a, u, b⟩ := x
  obtain ⟨a', u', b'⟩ := y
  rw [ltS] at e1 e2
  by_cases h : a = a'
  · subst h
    rw [if_pos rfl] at e1 e2
    by_cases h' : u = u'
    · subst h'
      rw [if_pos rfl] at e1 e2
      have q1 := of_decide_eq_false e1
      have q2 := of_decide_eq_false e2
      have : b = b' := by omega
      rw [this]
    · rw [if_neg (fun q => h' q.symm)] at e1
      rw [if_neg h'] at e2
      have q1 := of_decide_eq_false e1
      have q2 := of_decide_eq_false e2
      exact absurd (str_ext (List.le_antisymm (List.not_lt.mp q1) (List.not_lt.mp q2))) h'
  · rw [if_neg (fun q => h q.symm)] at e1
    rw [if_neg h] at e2
    have q1 := of_decide_eq_false e1
    have q2 := of_decide_eq_false e2
    omega
theorem sortT_perm {l l' : List Stp} (h : l.Perm l') : sortT l = sortT l' :=
  PySem.W.Srt.the_of_perm leT leT_trans leT_total leT_anti ((List.mergeSort_perm l leT).trans h) (List.pairwise_mergeSort leT_trans leT_total l)
theorem stps_of {H : Hp} : ∀ {ps : List (V × Stp)}, (∀ p ∈ ps, IsStp H p.1 p.2) → Stps H (ps.map (·.1)) (ps.map (·.2))
  | [], _ => .nil
  | p :: r, h => .cons (h p (by simp)) (stps_of fun q hq => h q (by simp [hq]))
theorem of_stps {H : Hp} : ∀ {xs : List V} {ts : List Stp}, Stps H xs ts → ∃ ps : List (V × Stp), xs = ps.map (·.1) ∧ ts = ps.map (·.2) ∧ ∀ p ∈ ps, IsStp H p.1 p.2
  | _, _, .nil => ⟨[], rfl, rfl, fun p h => by cases h⟩
  | _, _, .cons (a := v) (b := t) r q => by
    obtain ⟨ps, rfl, rfl, h⟩ := of_stps q
    refine ⟨(v, t) :: ps, rfl, rfl, fun p hp => ?_⟩
    rcases List.mem_cons.mp hp with e | e
    · rw [e]
      exact r
    · exact h p e
/-- the pairs that sorted gets of steps -/
def encP (ps : List (V × Stp)) : List (V × PyData) := ps.map fun p => (p.1, encS p.2)
/-- sorted of the steps: what the new list holds -/
theorem srtD_stps {H : Hp} {ps : List (V × Stp)} (h : ∀ p ∈ ps, IsStp H p.1 p.2) : Stps H (srtD (encP ps)) (sortT (ps.map (·.2))) := by
  have e1 : srtD (encP ps) = (ps.mergeSort fun p q => leT p.2 q.2).map (·.1) := by
    unfold srtD encP
    have e : ((ps.map fun p => (p.1, encS p.2)).mergeSort (PySem.W.dataLe false fun z : V × PyData => z.2)) = (ps.mergeSort fun p q => leT p.2 q.2).map fun p => (p.1, encS p.2) :=
      (PySem.W.sort_maps (fun p : V × Stp => (p.1, encS p.2)) fun a _ b _ => rfl).symm
    rw [e, List.map_map]
    rfl
  have e2 : sortT (ps.map (·.2)) = (ps.mergeSort fun p q => leT p.2 q.2).map (·.2) := (PySem.W.sort_maps (fun p : V × Stp => p.2) fun a _ b _ => rfl).symm
  rw [e1, e2]
  exact stps_of fun p hp => h p ((List.mergeSort_perm ps _).mem_iff.mp hp)
theorem encP_fst (ps : List (V × Stp)) : (encP ps).map (·.1) = ps.map (·.1) := by
  unfold encP
  rw [List.map_map]
  rfl
theorem encP_snd (ps : List (V × Stp)) : (encP ps).map (·.2) = (ps.map (·.2)).map encS := by
  unfold encP
  rw [List.map_map, List.map_map]
  rfl
theorem encP_sorts (ps : List (V × Stp)) : PySem.W.AllAlike ((encP ps).map (·.2)) ∧ PySem.W.Sortable ((encP ps).map (·.2)) := by
  rw [encP_snd]
  exact ⟨PySem.W.AllAlike.of fun b b' => by simp [encS, PySem.W.alike, PySem.W.alikeAll], PySem.W.Sortable.tuples fun b => ⟨_, _, rfl⟩⟩
/-- two rows of steps compared as data -/
theorem eqv_stps : ∀ ts us : List Stp, PyData.eqvAll (ts.map encS) (us.map encS) = decide (ts = us)
  | [], [] => by simp [PyData.eqvAll]
  | [], u :: us => by simp [PyData.eqvAll]
  | t :: ts, [] => by simp [PyData.eqvAll]
  | t :: ts, u :: us => by
    rw [List.map_cons, List.map_cons]
    simp only [PyData.eqvAll]
    rw [encS_eqv, eqv_stps ts us]
    by_cases h1 : t = u <;> by_cases h2 : ts = us <;> simp [h1, h2]
end WW

set_option Elab.async false
set_option linter.all false
set_option maxRecDepth 100000
set_option maxHeartbeats 4000000
namespace WW
open PySem PySem.Spec PyProof.Rows L2
/-! ### hands -/
theorem nbr : ¬ (("begin" : Str) = "row") := by decide +kernel
theorem nrb : ¬ (("row" : Str) = "begin") := by decide +kernel
def hf0 (b : Int) : List (Str × V) := putF "begin" (.int b) []
def hfs (b : Int) (r : Addr) : List (Str × V) := putF "row" (.ref r) (hf0 b)
theorem hfs_row (b : Int) (r : Addr) : (hfs b r).lookup ("row" : Str) = some (.ref r) := by
  unfold hfs
  rw [lookup_putF, if_pos rfl]
theorem hfs_begin (b : Int) (r : Addr) : (hfs b r).lookup ("begin" : Str) = some (.int b) := by
  unfold hfs hf0
  rw [lookup_putF, if_neg nbr, lookup_putF, if_pos rfl]
/-- at h stands a hand with the start b and the steps ts -/
def HandAt (C : Addr) (H : Hp) (h : Addr) (b : Int) (ts : List Stp) : Prop := ∃ dx r xs, H h = some (.ins C dx (hfs b r)) ∧ H r = some (.tup xs) ∧ Stps H xs ts
theorem HandAt.mono {C : Addr} {H H' : Hp} {h : Addr} {b : Int} {ts : List Stp} (s : Same H H') (x : HandAt C H h b ts) : HandAt C H' h b ts := by
  obtain ⟨dx, r, xs, h1, h2, h3⟩ := x
  exact ⟨dx, r, xs, s _ _ h1, s _ _ h2, h3.mono s⟩
structure HandC (K : PySem.W.Frag) (mg : Str → Option Value) (C : Addr) : Prop where
  cl : Cls K C
  nB : NoAttr K C "begin"
  nR : NoAttr K C "row"
  mgC : mg "Hand" = some (.ref C)
section
variable {P : Program} {w : World} {K : PySem.W.Frag} {mg : Str → Option Value} {base : Heap} {f fA fB CH : Addr} {fd fdA fdB : FuncData}
abbrev sHand_init : Stmt := inClass (topS 17) 0
abbrev nHand_init : List Str := ["self", "start", "steps"]
theorem scHand_init : FnScope nHand_init ["self", "start", "steps"] (defScope sHand_init) := ⟨rfl, rfl, rfl, by decide +kernel, rfl, by decide +kernel, by decide +kernel⟩
def spHInit (C : Addr) : Sp := fun vs H Q _ => ∃ (x dx : Addr) (b : Int) (a : Addr) (xs : List V) (ts : List Stp), vs = [.ref x, .int b, .ref a] ∧ H x = some (.ins C dx []) ∧ (0 ≤ b ∧ b ≤ 99) ∧ RowAt H a xs ∧ Stps H xs ts ∧ GoodS ts ∧
  ∀ r H', H r = none → (∀ c o, c ≠ x → H c = some o → H' c = some o) → H' x = some (.ins C dx (hfs b r)) → H' r = some (.tup xs) → Q .non H'
theorem ok_hinit (F : Fun K "__init__" "Hand.__init__" sHand_init f fd) (HC : HandC K mg CH) (DIs_state : Df K mg "is_state" sIs_state ["thing"] fA fdA) (GIs_state : FnOk P w K mg base CX0 3 fA fdA ["thing"] (spIsState K))
    (DGood_steps : Df K mg "good_steps" sGood_steps ["steps"] fB fdB) (GGood_steps : FnOk P w K mg base CX0 5 fB fdB ["steps"] spGood) : FnOk P w K mg base CX0 6 f fd ["self", "start", "steps"] (spHInit CH) := by
  refine F.ok scHand_init (fun vs H Q E h => ?_) (fun cdv A outer s H vs Q E hr h => ?_)
  · obtain ⟨x, dx, b, a, xs, ts, rfl, _⟩ := h
    rfl
  · obtain ⟨x, dx, b, a, xs, ts, rfl, hx, ⟨b0, b1⟩, hrow, hst, G, q⟩ := h
    refine ⟨_, (pss_cons (ps_if (pt_not (pt_val (pe_df DIs_state GIs_state (hr.mono (by decide)) (pa_cons (pv 1) pa_nil)))) (pss_one ps_never) pss_nil)
      (pss_cons (ps_fld (pv 0) (pv 1) rfl)
      (pss_one (ps_fld (pv 0) (pe_df DGood_steps GGood_steps (hr.mono (by decide)) (pa_cons (pv 2) pa_nil)) rfl)))), ?_⟩
    refine ⟨_, rfl, _, "int", rfl, kd_int K H b, ?_⟩
    have e : btw 0 99 (.int b) = true := by
      show (decide (0 ≤ b) && decide (b ≤ 99)) = true
      rw [decide_eq_true b0, decide_eq_true b1]
      rfl
    rw [e]
    refine ⟨_, rfl, ?_⟩
    refine ⟨_, rfl, _, rfl, x, CH, dx, [], rfl, hx, HC.cl, HC.nB, by show 0 < 1000; decide, ?_⟩
    have nx : ∀ (c : Addr) (o : HO), (∀ C dx fs, o ≠ .ins C dx fs) → H c = some o → c ≠ x := fun c o n h z => by
      rw [z, hx] at h
      exact n _ _ _ (Option.some.inj h).symm
    have keep : ∀ c o, c ≠ x → H c = some o → upd H x (.ins CH dx (putF "begin" (.int b) [])) c = some o := fun c o n h => (upd_ne n).trans h
    have hrow' : RowAt (upd H x (.ins CH dx (putF "begin" (.int b) []))) a xs := by
      rcases hrow with h | h
      · exact .inl (keep _ _ (nx _ _ (fun _ _ _ z => by cases z) h) h)
      · exact .inr (keep _ _ (nx _ _ (fun _ _ _ z => by cases z) h) h)
    have hst' : Stps (upd H x (.ins CH dx (putF "begin" (.int b) []))) xs ts := L2.Paired.mapP hst fun v t ⟨a, e, h⟩ => ⟨a, e, keep _ _ (nx _ _ (fun _ _ _ z => by cases z) h) h⟩
    refine ⟨_, rfl, a, xs, ts, rfl, hrow', hst', G, fun p H' np s' hp => ?_⟩
    have hx' := s' _ _ (upd_same (H := H) (a := x) (o := .ins CH dx (putF "begin" (.int b) [])))
    have npx : p ≠ x := fun z => by
      rw [z, upd_same] at np
      cases np
    refine ⟨_, rfl, x, CH, dx, _, rfl, hx', HC.cl, HC.nR, by show 1 < 1000; decide, ?_⟩
    refine q p _ (by rw [upd_ne npx] at np; exact np) (fun c o n h => ?_) upd_same ((upd_ne npx).trans hp)
    rw [upd_ne n]
    exact s' _ _ (keep c o n h)
abbrev sHand_start : Stmt := inClass (topS 17) 1
abbrev nHand_start : List Str := ["self"]
theorem scHand_start : FnScope nHand_start ["self"] (defScope sHand_start) := ⟨rfl, rfl, rfl, by decide +kernel, rfl, by decide +kernel, by decide +kernel⟩
def spHStart (C : Addr) : Sp := fun vs H Q _ => ∃ (h : Addr) (b : Int) (ts : List Stp), vs = [.ref h] ∧ HandAt C H h b ts ∧ Q (.int b) H
theorem ok_hstart (F : Fun K "start" "Hand.start" sHand_start f fd) (HC : HandC K mg CH) : FnOk P w K mg base CX0 1 f fd ["self"] (spHStart CH) := by
  refine F.ok scHand_start (fun vs H Q E h => ?_) (fun cdv A outer s H vs Q E hr h => ?_)
  · obtain ⟨h, b, ts, rfl, _⟩ := h
    rfl
  · obtain ⟨h, b, ts, rfl, ⟨dx, r, xs, h1, h2, h3⟩, q⟩ := h
    refine ⟨_, (pss_one (ps_ret (pe_fld (pv 0) rfl))), ?_⟩
    exact ⟨_, rfl, h, CH, dx, _, _, rfl, h1, HC.cl, HC.nB, hfs_begin _ _, q⟩
abbrev sHand_steps : Stmt := inClass (topS 17) 2
abbrev nHand_steps : List Str := ["self"]
theorem scHand_steps : FnScope nHand_steps ["self"] (defScope sHand_steps) := ⟨rfl, rfl, rfl, by decide +kernel, rfl, by decide +kernel, by decide +kernel⟩
def spHSteps (C : Addr) : Sp := fun vs H Q _ => ∃ (h : Addr) (b : Int) (ts : List Stp), vs = [.ref h] ∧ HandAt C H h b ts ∧ ∀ r xs, H r = some (.tup xs) → Stps H xs ts → Q (.ref r) H
theorem ok_hsteps (F : Fun K "steps" "Hand.steps" sHand_steps f fd) (HC : HandC K mg CH) : FnOk P w K mg base CX0 1 f fd ["self"] (spHSteps CH) := by
  refine F.ok scHand_steps (fun vs H Q E h => ?_) (fun cdv A outer s H vs Q E hr h => ?_)
  · obtain ⟨h, b, ts, rfl, _⟩ := h
    rfl
  · obtain ⟨h, b, ts, rfl, ⟨dx, r, xs, h1, h2, h3⟩, q⟩ := h
    refine ⟨_, (pss_one (ps_ret (pe_fld (pv 0) rfl))), ?_⟩
    exact ⟨_, rfl, h, CH, dx, _, _, rfl, h1, HC.cl, HC.nR, hfs_row _ _, q r xs h2 h3⟩

/-! ### words -/
/-- a set comprehension over a tuple, its elements texts -/
theorem sc_tupS {Pp : Program} {w' : World} {K' : PySem.W.Frag} {a : Addr} {xs : List V} {j : Nat} {te : TE} {vs : List Nat} {σ : L2.St} {H1 : Hp} {D : Addr} {Qd : Hp → Prop} (zs : List Str) (hx : SqT K' H1 a xs) (hl : xs.length = zs.length) (hlen : xs.length ≤ 1000)
    (hw : ∀ x, wipe ((wipe σ vs).set j (some x)) vs = wipe σ vs)
    (step : ∀ (i : Nat) (x : V) (z : Str) (H : Hp), xs[i]? = some x → zs[i]? = some z → Same H1 H → ∀ Q : VK, Q (.str z) H → te ((wipe σ vs).set j (some x)) H Q)
    (hD : H1 D = none) (hd : ∀ H (ks : List Str), Same H1 H → H D = some (SetKo Pp w' D (ks.map Sum.inr)) → ks.Nodup → (∀ z, z ∈ ks ↔ z ∈ zs) → Qd H) :
    ∃ W : Nat → Nat → Hp → Prop, (∃ m, W 0 m (upd H1 D (SetKo Pp w' D []))) ∧ ∀ i m H, W i m H →
      ((Itt K' a).stop i H ∧ Qd H) ∨ ((Itt K' a).go i H ∧ ∃ Nx : Hp → Prop, (∀ H', Nx H' → ∃ m', m' < m ∧ W (i + 1) m' H') ∧ ∀ x H', (Itt K' a).yld i H x H' → gName j x (wipe σ vs) H' fun σ2 H2 => wipe σ2 vs = wipe σ vs ∧ tYes σ2 H2 fun b H3 =>
        if b = true then te σ2 H3 fun y H4 => ∃ (k : Key) (ks : List Key), y = kV k ∧ H4 D = some (SetKo Pp w' D ks) ∧ ks.length + 1 < scanBound ∧ Nx (upd H4 D (SetKo Pp w' D (insG k ks))) else Nx H3) := by
  let Pv : Nat → Hp → Prop := fun i H => Same H1 H ∧ ∃ ks : List Str, H D = some (SetKo Pp w' D (ks.map Sum.inr)) ∧ ks.Nodup ∧ (∀ z, z ∈ ks ↔ z ∈ zs.take i) ∧ ks.length ≤ i
  refine ⟨fun i m H => m = xs.length - i ∧ i ≤ xs.length ∧ Pv i H, ⟨_, rfl, Nat.zero_le _, same_upd hD, [], upd_same, List.nodup_nil, fun z => by simp, Nat.le_refl _⟩, ?_⟩
  rintro i m H ⟨rfl, hi, sm, ks, hk, nd, mem, kl⟩
  have hx' := Same.seqT sm hx
  by_cases h : i < xs.length
  · refine .inr ⟨⟨xs, xs[i], hx', List.getElem?_eq_getElem h⟩, Pv (i + 1), fun H' p' => ⟨_, by omega, rfl, by omega, p'⟩, ?_⟩
    rintro x H' ⟨rfl, hy⟩
    have hxi := hy xs hx'
    have hz : zs[i]? = some zs[i] := List.getElem?_eq_getElem (by omega)
    refine ⟨hw x, step i x _ H' hxi hz sm _ ⟨Sum.inr zs[i], ks.map Sum.inr, rfl, hk, ?_, ?_⟩⟩
    · rw [List.length_map]
      show ks.length + 1 < 4096
      omega
    · refine ⟨fun b o hb => ?_, insG zs[i] ks, ?_, nodup_insG nd, fun z => ?_, ?_⟩
      · rw [upd_ne (ne_of_none hb hD)]
        exact sm _ _ hb
      · rw [upd_same, insG_inr]
      · rw [mem_insG, mem, take_next hz, List.mem_append, List.mem_singleton]
        exact Or.comm
      · unfold insG
        split
        · omega
        · simp
          omega
  · have e : i = xs.length := by omega
    subst e
    refine .inl ⟨⟨xs, hx', Nat.le_refl _⟩, hd H ks sm hk nd fun z => ?_⟩
    rw [mem, hl, List.take_length]
abbrev sHand_words : Stmt := inClass (topS 17) 3
abbrev nHand_words : List Str := ["self", "step"]
theorem scHand_words : FnScope nHand_words ["self"] (defScope sHand_words) := ⟨rfl, rfl, rfl, by decide +kernel, rfl, by decide +kernel, by decide +kernel⟩
def spHWords (C : Addr) : Sp := fun vs H Q _ => ∃ (h : Addr) (b : Int) (ts : List Stp), vs = [.ref h] ∧ HandAt C H h b ts ∧ ts.length ≤ 1000 ∧ ∀ p H', H p = none → Same H H' → H' p = some (.lst ((wordsOf ts).map V.str)) → Q (.ref p) H'
theorem ok_hwords (F : Fun K "words" "Hand.words" sHand_words f fd) (HC : HandC K mg CH) (T : Bl mg) : FnOk P w K mg base CX0 1 f fd ["self"] (spHWords CH) := by
  refine F.ok scHand_words (fun vs H Q E h => ?_) (fun cdv A outer s H vs Q E hr h => ?_)
  · obtain ⟨h, b, ts, rfl, _⟩ := h
    rfl
  · obtain ⟨h, b, ts, rfl, ⟨dx, r, xs, h1, h2, h3⟩, hlen, q⟩ := h
    refine ⟨_, (pss_one (ps_ret (pe_callB (cr_sortedSt rfl (hu70 hr)) (by rfl) T.sorted (by decide +kernel) (pa_cons (pe_scK (own := [("step", 1)]) rfl scHand_words.nd (pi_tup (pe_fld (pv 0) rfl)) (blkOk_by (own := [("step", 1)]) (N := nHand_words) (sc := defScope sHand_words) (by decide +kernel)) (fun _ _ _ _ _ => (pg_name (i := 1) scHand_words.nd rfl (Or.inl rfl))) (fun _ _ _ _ _ => pts_nil) (fun _ _ _ _ _ => (pe_ix (r := rIxT K) ix_tup (pv 1) pe_int (fun _ _ => rfl)))) pa_nil)))), ?_⟩
    have hl : xs.length = ts.length := Paired.length h3
    refine ⟨_, rfl, h, CH, dx, _, _, rfl, h1, HC.cl, HC.nR, hfs_row _ _, r, rfl, ⟨_, SqT.of h2⟩, fun D1 hD1 => sc_tupS (ts.map (·.2.1)) (SqT.of h2) (by rw [List.length_map]; exact hl) (by omega) (fun _ => rfl) (fun i x z H2 hi hz s2 Q2 q2 => ?_) hD1 (fun H2 ks s2 hk nd mem => ?_)⟩
    · obtain ⟨t, ht, a, rfl, ha⟩ := paired_get h3 hi
      have ez : z = t.2.1 := by
        rw [List.getElem?_map, ht] at hz
        exact (Option.some.inj hz).symm
      subst ez
      exact ⟨_, rfl, a, _, 1, _, rfl, rfl, SqT.of (s2 _ _ ha), atI_nat (j := 1) rfl, q2⟩
    · refine ⟨D1, ks, rfl, hk, fun p ys py hp => ?_⟩
      refine q p _ (s2.free hp) (s2.trans (same_upd hp)) ?_
      rw [upd_same, srtD_strs, sortS_perm py, words_any nd mem]
abbrev sHand_eq : Stmt := inClass (topS 17) 4
abbrev nHand_eq : List Str := ["self", "other"]
theorem scHand_eq : FnScope nHand_eq ["self", "other"] (defScope sHand_eq) := ⟨rfl, rfl, rfl, by decide +kernel, rfl, by decide +kernel, by decide +kernel⟩
def spHEq (C : Addr) : Sp := fun vs H Q _ => ∃ (a b : Addr) (ba bb : Int) (ta tb : List Stp), vs = [.ref a, .ref b] ∧ HandAt C H a ba ta ∧ HandAt C H b bb tb ∧ (∀ t ∈ ta, StpOk t) ∧ (∀ t ∈ tb, StpOk t) ∧ ∀ H', Same H H' → Q (.bl (decide (ba = bb) && decide (sortT ta = sortT tb))) H'
theorem ok_heq (F : Fun K "__eq__" "Hand.__eq__" sHand_eq f fd) (HC : HandC K mg CH) (IHand : C8.InsC K CH) (T : Bl mg) : FnOk P w K mg base CX0 1 f fd ["self", "other"] (spHEq CH) := by
  refine F.ok scHand_eq (fun vs H Q E h => ?_) (fun cdv A outer s H vs Q E hr h => ?_)
  · obtain ⟨a, b, ba, bb, ta, tb, rfl, _⟩ := h
    rfl
  · obtain ⟨a, b, ba, bb, ta, tb, rfl, ⟨dx, r, xs, h1, h2, h3⟩, ⟨dy, r', ys, g1, g2, g3⟩, oka, okb, q⟩ := h
    refine ⟨_, (pss_one (ps_ret (pe_and (pe_callB (C8.call_isC IHand) (by rfl) T.isinstance (by decide +kernel) (pa_cons (pv 1) (pa_cons (pe_glob (v := .ref CH) (by rfl) HC.mgC rfl) pa_nil))) (pe_and (pe_cmpR op_eq (pe_fld (pv 0) rfl) (pe_fld (pv 1) rfl) (nomark _)) (pe_one (pe_cmpR (op_eqD hr.units) (pe_callB (cr_sortedD (hu70 hr)) (by rfl) T.sorted (by decide +kernel) (pa_cons (pe_fld (pv 0) rfl) pa_nil)) (pe_callB (cr_sortedD (hu70 hr)) (by rfl) T.sorted (by decide +kernel) (pa_cons (pe_fld (pv 1) rfl) pa_nil)) (nomark _))))))), ?_⟩
    refine ⟨_, rfl, b, dy, _, rfl, g1, _, rfl, ?_⟩
    refine ⟨_, rfl, a, CH, dx, _, _, rfl, h1, HC.cl, HC.nB, hfs_begin _ _, _, rfl, b, CH, dy, _, _, rfl, g1, HC.cl, HC.nB, hfs_begin _ _, rfl, _, rfl, ?_⟩
    by_cases hb : ba = bb
    · subst hb
      rw [decide_eq_true (rfl : V.int ba = V.int ba)]
      rw [decide_eq_true (rfl : ba = ba), Bool.true_and] at q
      obtain ⟨ps, rfl, rfl, hp⟩ := of_stps h3
      obtain ⟨qs, rfl, rfl, hq⟩ := of_stps g3
      refine ⟨_, rfl, a, CH, dx, _, _, rfl, h1, HC.cl, HC.nR, hfs_row _ _, r, encP ps, rfl, .inr (by rw [encP_fst]; exact SqT.of h2), fun x hx => ?_, (encP_sorts ps).1, (encP_sorts ps).2, fun x hx => ?_, fun p np => ?_⟩
      · obtain ⟨z, hz, rfl⟩ := List.mem_map.mp hx
        exact (hp z hz).dp
      · obtain ⟨z, hz, rfl⟩ := List.mem_map.mp hx
        show (encS z.2).depth ≤ 64
        rw [encS_depth]
        decide
      have s1 : Same H (upd H p (.lst (srtD (encP ps)))) := same_upd np
      refine ⟨_, rfl, b, CH, dy, _, _, rfl, s1 _ _ g1, HC.cl, HC.nR, hfs_row _ _, r', encP qs, rfl, .inr (by rw [encP_fst]; exact SqT.of (s1 _ _ g2)), fun x hx => ?_, (encP_sorts qs).1, (encP_sorts qs).2, fun x hx => ?_, fun p' np' => ?_⟩
      · obtain ⟨z, hz, rfl⟩ := List.mem_map.mp hx
        exact ((hq z hz).mono s1).dp
      · obtain ⟨z, hz, rfl⟩ := List.mem_map.mp hx
        show (encS z.2).depth ≤ 64
        rw [encS_depth]
        decide
      have s2 : Same (upd H p (.lst (srtD (encP ps)))) (upd (upd H p (.lst (srtD (encP ps)))) p' (.lst (srtD (encP qs)))) := same_upd np'
      have st1 := (srtD_stps hp).mono (s1.trans s2)
      have st2 := (srtD_stps hq).mono (s1.trans s2)
      have okp : ∀ t ∈ sortT (ps.map (·.2)), StpOk t := fun t ht => oka t ((List.mergeSort_perm _ _).mem_iff.mp ht)
      have okq : ∀ t ∈ sortT (qs.map (·.2)), StpOk t := fun t ht => okb t ((List.mergeSort_perm _ _).mem_iff.mp ht)
      refine ⟨_, _, .lst (SqL.of (s2 _ _ upd_same)) (Stps.dpAll st1), .lst (SqL.of upd_same) (Stps.dpAll st2), encSs_shaped okp, encSs_shaped okq, ?_⟩
      have e : PyData.eqv (.list ((sortT (ps.map (·.2))).map encS)) (.list ((sortT (qs.map (·.2))).map encS)) = decide (sortT (ps.map (·.2)) = sortT (qs.map (·.2))) := by
        simp only [PyData.eqv]
        exact eqv_stps _ _
      rw [e]
      exact q _ (s1.trans s2)
    · rw [decide_eq_false (fun e => hb (V.int.inj e))]
      rw [decide_eq_false hb, Bool.false_and] at q
      exact q H (Same.refl _)
end
end WW

set_option Elab.async false
set_option linter.all false
set_option maxRecDepth 100000
set_option maxHeartbeats 4000000
namespace WW
open PySem PySem.Spec PyProof.Rows L2
/-! ### rows of steps that make a hand, whatever their order -/
structure Fine (ts : List Stp) : Prop where
  l1 : 1 ≤ ts.length
  l2 : ts.length ≤ 20
  ok : ∀ t ∈ ts, StpOk t
  nd : ts.Nodup
  few : ∀ s, cnt s ts ≤ 3
theorem cnt_append (s : Int) (a b : List Stp) : cnt s (a ++ b) = cnt s a + cnt s b := by
  unfold cnt
  rw [List.filter_append, List.length_append]
theorem cnt_perm (s : Int) {a b : List Stp} (h : a.Perm b) : cnt s a = cnt s b := (h.filter _).length_eq
theorem cnt_one (t : Stp) : cnt t.1 [t] = 1 := by simp [cnt]
theorem cnt_other {s : Int} {t : Stp} (h : t.1 ≠ s) : cnt s [t] = 0 := by simp [cnt, h]
theorem Fine.good {ts : List Stp} (F : Fine ts) : GoodS ts := by
  refine ⟨F.l1, F.l2, F.ok, F.nd, fun i t h e => ?_⟩
  have h1 := F.few t.1
  have h2 : ts = ts.take (i + 1) ++ ts.drop (i + 1) := (List.take_append_drop _ _).symm
  rw [h2, cnt_append, take_next h, cnt_append, cnt_one] at h1
  omega
theorem Fine.perm {ts us : List Stp} (F : Fine ts) (h : us.Perm ts) : Fine us :=
  ⟨by rw [h.length_eq]; exact F.l1, by rw [h.length_eq]; exact F.l2, fun t ht => F.ok t (h.mem_iff.mp ht), h.nodup_iff.mpr F.nd, fun s => by rw [cnt_perm s h]; exact F.few s⟩
/-- the states are at most 96 -/
def Low (ts : List Stp) : Prop := ∀ t ∈ ts, (0 ≤ t.1 ∧ t.1 ≤ 96) ∧ NameOk t.2.1 ∧ (0 ≤ t.2.2 ∧ t.2.2 ≤ 96)
theorem Low.ok {ts : List Stp} (h : Low ts) : ∀ t ∈ ts, StpOk t := fun t ht => by
  obtain ⟨⟨h1, h2⟩, h3, h4, h5⟩ := h t ht
  exact ⟨⟨h1, by omega⟩, h3, h4, by omega⟩
def plc (first gap : Int) (m : Nat) : List Int := (List.range m).map fun (k : Nat) => first + gap * (k : Int)
theorem plc_len (first gap : Int) (m : Nat) : (plc first gap m).length = m := by simp [plc]
theorem plc_get {first gap : Int} {m k : Nat} (h : k < m) : (plc first gap m)[k]? = some (first + gap * (k : Int)) := by
  unfold plc
  rw [List.getElem?_map, List.getElem?_range h]
  rfl
theorem plc_mem {first gap : Int} {m : Nat} {x : Int} (h : x ∈ plc first gap m) : ∃ k : Nat, k < m ∧ x = first + gap * (k : Int) := by
  obtain ⟨k, hk, rfl⟩ := List.mem_map.mp h
  exact ⟨k, List.mem_range.mp hk, rfl⟩
theorem plc_bound {first gap : Int} {m : Nat} {x : Int} (f0 : 0 ≤ first) (f1 : first < 70) (g0 : 1 ≤ gap) (g1 : gap ≤ 9) (hm : m ≤ 4) (h : x ∈ plc first gap m) : 0 ≤ x ∧ x ≤ 96 := by
  obtain ⟨k, hk, rfl⟩ := plc_mem h
  obtain rfl | rfl | rfl | rfl : k = 0 ∨ k = 1 ∨ k = 2 ∨ k = 3 := by omega
  all_goals omega
theorem plc_succ (first gap : Int) (m : Nat) : plc first gap (m + 1) = plc first gap m ++ [first + gap * (m : Int)] := by
  unfold plc
  rw [List.range_succ, List.map_append]
  rfl
theorem plc_nodup {first gap : Int} (g0 : 1 ≤ gap) : ∀ m, (plc first gap m).Nodup
  | 0 => List.nodup_nil
  | m + 1 => by
    rw [plc_succ, List.nodup_append]
    refine ⟨plc_nodup g0 m, by simp, fun a ha b hb e => ?_⟩
    obtain ⟨k, hk, rfl⟩ := plc_mem ha
    rw [List.mem_singleton.mp hb] at e
    have h1 : gap * (k : Int) = gap * (m : Int) := by omega
    have h2 := Int.eq_of_mul_eq_mul_left (by omega) h1
    omega
theorem cnt_count (s : Int) : ∀ ts : List Stp, cnt s ts = (ts.map (·.1)).count s
  | [] => rfl
  | t :: r => by
    have ih := cnt_count s r
    unfold cnt at ih ⊢
    rw [List.map_cons, List.count_cons, ← ih, List.filter_cons]
    by_cases h : t.1 = s <;> simp [h]
theorem nodup_of_fst {ts : List Stp} (h : (ts.map (·.1)).Nodup) : ts.Nodup := List.Pairwise.of_map _ (fun _ _ hne e => hne (congrArg _ e)) h
def oneV (H : Hp) (i : Int) (v : V) : Option V := (fstV H i v).map fun _ => V.int 1
theorem oneV_len {H : Hp} (i : Int) {xs : List V} {ts : List Stp} (h : Stps H xs ts) : (xs.filterMap (oneV H i)).length = cnt i ts := by
  rw [← fstV_len i h]
  have e : xs.filterMap (oneV H i) = (xs.filterMap (fstV H i)).map fun _ => V.int 1 := by
    rw [List.map_filterMap]
    rfl
  rw [e, List.length_map]
theorem Stps.snoc {H : Hp} {xs : List V} {ts : List Stp} {v : V} {t : Stp} (h : Stps H xs ts) (r : IsStp H v t) : Stps H (xs ++ [v]) (ts ++ [t]) := paired_snoc h r
section
variable {P : Program} {w : World} {K : PySem.W.Frag} {mg : Str → Option Value} {base : Heap} {f fA fB : Addr} {fd fdA fdB : FuncData}
abbrev sLhand : Stmt := topS 24
abbrev nLhand : List Str := ["_law_pool_here", "_law_words", "_law_most", "_law_shape", "_law_first", "_law_gap", "_law_places", "_law_steps", "_law_k", "_law_step", "_law_old"]
theorem scLhand : FnScope nLhand ["_law_pool_here", "_law_words", "_law_most"] (defScope sLhand) := ⟨rfl, rfl, rfl, by decide +kernel, rfl, by decide +kernel, by decide +kernel⟩
def spHandL : Sp := fun vs H Q _ => ∃ (p wa : Addr) (n : Int) (S : Hp) (ws : List Str), vs = [.ref p, .ref wa, .int n] ∧ Pool S H p ∧ S wa = some (.lst (ws.map V.str)) ∧ 0 < ws.length ∧ ws.length < 1000 ∧ (∀ z ∈ ws, NameOk z) ∧ 1 ≤ n ∧ n ≤ 4 ∧
  ∀ (t r : Addr) (b : Int) (xs : List V) (ts : List Stp) (S' H' : Hp), Pool S' H' p → Gr p S H S' H' → S' t = some (.tup [.int b, .ref r]) → S' r = some (.tup xs) → Stps S' xs ts → Fine ts → Low ts → (0 ≤ b ∧ b ≤ 96) → ts.length ≤ 10 → Q (.ref t) H'
theorem ok_handL (D : Df K mg "_law_hand" sLhand ["_law_pool_here", "_law_words", "_law_most"] f fd) (DLdraw : Df K mg "_law_draw" sLdraw ["_law_pool_here", "_law_many"] fA fdA) (DLpick : Df K mg "_law_pick" sLpick ["_law_pool_here", "_law_items"] fB fdB) (T : Bl mg) :
    FnOk P w K mg base CX0 3 f fd ["_law_pool_here", "_law_words", "_law_most"] spHandL := by
  have GLdraw : FnOk P w K mg base CX0 1 fA fdA ["_law_pool_here", "_law_many"] spDraw := ok_draw DLdraw T
  have GLpick : FnOk P w K mg base CX0 2 fB fdB ["_law_pool_here", "_law_items"] spPick := ok_pick DLpick DLdraw T
  refine D.fn.ok scLhand (fun vs H Q E h => ?_) (fun cdv A outer s H vs Q E hr h => ?_)
  · obtain ⟨p, wa, n, S, ws, rfl, _⟩ := h
    rfl
  · obtain ⟨p, wa, n, S, ws, rfl, P0, hw, w0, w1, hws, n0, n1, q⟩ := h
    refine ⟨_, (pss_cons (ps_asg (pe_tup (pa_cons (pe_df DLdraw GLdraw (hr.mono (by decide)) (pa_cons (pv 0) (pa_cons pe_int pa_nil))) (pa_cons (pe_df DLdraw GLdraw (hr.mono (by decide)) (pa_cons (pv 0) (pa_cons pe_int pa_nil))) (pa_cons (pe_op op_add pe_int (pe_df DLdraw GLdraw (hr.mono (by decide)) (pa_cons (pv 0) (pa_cons pe_int pa_nil)))) pa_nil)))) (pg_tup rfl (pgs_cons (pg_name (i := 3) scLhand.nd rfl (Or.inl rfl)) (pgs_cons (pg_name (i := 4) scLhand.nd rfl (Or.inr rfl)) (pgs_cons (pg_name (i := 5) scLhand.nd rfl (Or.inr rfl)) pgs_nil)))))
      (pss_cons (ps_setLc (i := 6) (own := [("_law_k", 8)]) rfl scLhand.nd rfl rfl (sw_true rfl rfl rfl (by decide +kernel)) (pi_range1 (by rfl) T.range (pa_cons (pe_op op_add pe_int (pe_df DLdraw GLdraw (hr.mono (by decide)) (pa_cons (pv 0) (pa_cons (pv 2) pa_nil)))) pa_nil)) (blkOk_by (own := [("_law_k", 8)]) (N := nLhand) (sc := defScope sLhand) (by decide +kernel)) (fun _ _ _ _ _ => (pg_name (i := 8) scLhand.nd rfl (Or.inl rfl))) (fun _ _ _ _ _ => pts_nil) (fun _ _ _ _ _ => (pe_op op_add (pv 4) (pe_op op_mul (pv 5) (pv 8)))))
      (pss_cons (ps_set (i := 7) scLhand.nd rfl (Or.inl rfl) (pe_lst pa_nil))
      (pss_cons (ps_for PassesOwn.never rfl (pi_range1 (by rfl) T.range (pa_cons (pe_op op_mul (pe_callB call_len (by rfl) T.len (by decide +kernel) (pa_cons (pv 6) pa_nil)) (pe_callTy call_int1 (by rfl) T.int (by decide +kernel) (pa_cons (pe_cmpR op_gt (pv 3) pe_int (nomark _)) pa_nil))) pa_nil)) (pg_name (i := 8) scLhand.nd rfl (Or.inl rfl)) (pss_one (ps_expr (pe_bm PySem.F.plainAttrs_list PySem.F.slot_list_append PySem.F.type_list_append mt_append (pv 7) (pa_cons (pe_tup (pa_cons (pe_ix ix_list (pv 6) (pv 8) (fun _ _ => rfl)) (pa_cons (pe_df DLpick GLpick (hr.mono (by decide)) (pa_cons (pv 0) (pa_cons (pv 1) pa_nil))) (pa_cons (pe_ix ix_list (pv 6) (pe_op op_mod (pe_callTy call_int1 (by rfl) T.int (by decide +kernel) (pa_cons (pe_op op_add (pv 8) pe_int) pa_nil)) (pe_callB call_len (by rfl) T.len (by decide +kernel) (pa_cons (pv 6) pa_nil))) (fun _ _ => rfl)) pa_nil)))) pa_nil)))))
      (pss_cons (ps_for PassesOwn.never rfl (pi_range1 (by rfl) T.range (pa_cons (pe_op op_add (pe_df DLdraw GLdraw (hr.mono (by decide)) (pa_cons (pv 0) (pa_cons pe_int pa_nil))) (pe_callTy call_int1 (by rfl) T.int (by decide +kernel) (pa_cons (pe_cmpR op_eq (pv 3) pe_int (nomark _)) pa_nil))) pa_nil)) (pg_name (i := 8) scLhand.nd rfl (Or.inl rfl)) (pss_cons (ps_set (i := 9) scLhand.nd rfl (Or.inr rfl) (pe_tup (pa_cons (pe_df DLpick GLpick (hr.mono (by decide)) (pa_cons (pv 0) (pa_cons (pv 6) pa_nil))) (pa_cons (pe_df DLpick GLpick (hr.mono (by decide)) (pa_cons (pv 0) (pa_cons (pv 1) pa_nil))) (pa_cons (pe_df DLpick GLpick (hr.mono (by decide)) (pa_cons (pv 0) (pa_cons (pv 6) pa_nil))) pa_nil)))))
      (pss_one (ps_if (PW.pt (pw_and (pt_cmpR (op_notInD (hu65 hr)) (pv 9) (pv 7) (by rfl)) (pw_and1 (pt_cmpR op_lt (pe_callB call_len (by rfl) T.len (by decide +kernel) (pa_cons (pe_lc (own := [("_law_old", 10)]) rfl scLhand.nd (pi_list (pv 7)) (blkOk_by (own := [("_law_old", 10)]) (N := nLhand) (sc := defScope sLhand) (by decide +kernel)) (fun _ _ _ _ _ => (pg_name (i := 10) scLhand.nd rfl (Or.inl rfl))) (fun _ _ _ _ _ => (pts_one (pt_cmpR op_eq (pe_ix (r := rIxT K) ix_tup (pv 10) pe_int (fun _ _ => rfl)) (pe_ix (r := rIxT K) ix_tup (pv 9) pe_int (fun _ _ => rfl)) (nomark _)))) (fun _ _ _ _ _ => pe_int)) pa_nil)) pe_int (nomark _))))) (pss_one (ps_expr (pe_bm PySem.F.plainAttrs_list PySem.F.slot_list_append PySem.F.type_list_append mt_append (pv 7) (pa_cons (pv 9) pa_nil)))) pss_nil))))
      (pss_one (ps_ret (pe_tup (pa_cons (pe_df DLpick GLpick (hr.mono (by decide)) (pa_cons (pv 0) (pa_cons (pv 6) pa_nil))) (pa_cons (pe_callTy call_tuple_of (by rfl) T.tuple (by decide +kernel) (pa_cons (pv 7) pa_nil)) pa_nil)))))))))), ?_⟩
    -- the three draws
    refine ⟨_, rfl, p, S, 3, rfl, by decide, by decide, P0, fun sh S1 H1 P1 g1 s0 s1 => ?_⟩
    refine ⟨_, rfl, p, S1, 70, rfl, by decide, by decide, P1, fun fi S2 H2 P2 g2 f0 f1 => ?_⟩
    refine ⟨_, rfl, p, S2, 9, rfl, by decide, by decide, P2, fun ga S3 H3 P3 g3 a0 a1 => ?_⟩
    refine ⟨_, _, rfl, rfl, by show 3 ≤ sizeLine; decide, fun t ht => ?_⟩
    have P4 := P3.new (o := .tup [.int sh, .int fi, .int (1 + ga)]) ht
    have g4 : Gr p S H _ _ := (g1.trans (g2.trans g3)).new (o := .tup [.int sh, .int fi, .int (1 + ga)]) P3.ss ht
    refine ⟨t, _, rfl, SqT.of upd_same, rfl, _, _, rfl, _, _, rfl, _, _, rfl, rfl, ?_⟩
    generalize upd S3 t (.tup [.int sh, .int fi, .int (1 + ga)]) = S4 at P4 g4
    show tSeq _ _ _ [some (.ref p), some (.ref wa), some (.int n), some (.int sh), some (.int fi), some (.int (1 + ga)), none, none, none, none, none] (upd H3 t (.tup [.int sh, .int fi, .int (1 + ga)]))
    generalize upd H3 t (.tup [.int sh, .int fi, .int (1 + ga)]) = H4 at P4 g4 ⊢
    -- the places
    refine ⟨_, rfl, _, rfl, p, S4, n, rfl, by omega, by omega, P4, fun m S5 H5 P5 g5 m0 m1 => ⟨_, _, rfl, rfl, 1 + m, rfl, by omega, by omega, fun D1 hD1 => ?_⟩⟩
    have g05 : Gr p S H S5 H5 := g4.trans g5
    refine lc_range (lo := 0) (n := (1 + m).toNat) (fun i H' => Same H5 H' ∧ H' D1 = some (.lst ((plc fi (1 + ga) i).map V.int))) ⟨same_upd hD1, upd_same⟩ ?_ ?_
    · rintro i H' hi ⟨sm, hD⟩
      refine ⟨rfl, _, rfl, _, rfl, _, rfl, _, _, rfl, rfl, .inl ⟨by omega, by omega⟩, _, _, rfl, rfl, _, hD, ?_, fun b o hb => ?_, ?_⟩
      · rw [List.length_map, plc_len]
        exact small1000 (by omega)
      · rw [upd_ne (ne_of_none hb hD1)]
        exact sm _ _ hb
      · rw [upd_same, plc_succ, List.map_append]
        simp
    rintro H6 ⟨sm6, hD6⟩
    obtain ⟨M, hM, M0, M1⟩ : ∃ M : Nat, (1 + m).toNat = M ∧ 1 ≤ M ∧ M ≤ 4 := ⟨_, rfl, by omega, by omega⟩
    rw [hM] at hD6
    have nDp : D1 ≠ p := fun z => P5.has (by rw [← z]; exact hD1)
    have sD1 : S5 D1 = none := P5.ss.free hD1
    have P6 := (P5.same sm6).fix hD6 sD1 nDp
    have g6 : Gr p S H _ _ := (g05.same sm6).fix (o := .lst ((plc fi (1 + ga) M).map V.int)) (g05.bk hD1) sD1
    have hpl : upd S5 D1 (.lst ((plc fi (1 + ga) M).map V.int)) D1 = some (.lst ((plc fi (1 + ga) M).map V.int)) := upd_same
    generalize upd S5 D1 (.lst ((plc fi (1 + ga) M).map V.int)) = S6 at P6 g6 hpl
    show tSeq _ _ _ [some (.ref p), some (.ref wa), some (.int n), some (.int sh), some (.int fi), some (.int (1 + ga)), some (.ref D1), none, none, none, none] H6
    have hw6 : S6 wa = some (.lst (ws.map V.str)) := g6.st _ _ hw
    have nwp : wa ≠ p := fun z => by rw [z, P6.np] at hw6; cases hw6
    have pb : ∀ x ∈ plc fi (1 + ga) M, 0 ≤ x ∧ x ≤ 96 := fun x hx => plc_bound f0 f1 (by omega) (by omega) M1 hx
    -- steps = []
    refine ⟨Nat.zero_le _, fun l hl => ?_⟩
    have nlp : l ≠ p := fun z => P6.has (by rw [← z]; exact hl)
    have sl6 : S6 l = none := P6.ss.free hl
    have P7 := P6.put (o := .lst []) sl6 nlp
    have g7 : Gr p S6 H6 S6 (upd H6 l (.lst [])) := Gr.refl.put hl
    have hl7 : upd H6 l (.lst []) l = some (.lst []) := upd_same
    generalize upd H6 l (.lst []) = H7 at P7 g7 hl7 ⊢
    have h7D := P7.ss _ _ hpl
    obtain ⟨N1, eN1, hN1⟩ : ∃ N1 : Nat, ((((plc fi (1 + ga) M).map V.int).length : Int) * (if decide (0 < sh) = true then 1 else 0)).toNat = N1 ∧ ((0 < sh ∧ N1 = M) ∨ (sh = 0 ∧ N1 = 0)) := by
      refine ⟨_, rfl, ?_⟩
      rw [List.length_map, plc_len]
      by_cases h : 0 < sh
      · rw [decide_eq_true h, if_pos rfl]
        exact .inl ⟨h, by omega⟩
      · rw [decide_eq_false h, if_neg Bool.false_ne_true]
        exact .inr ⟨by omega, by omega⟩
    refine ⟨_, rfl, _, _, rfl, .inl ⟨_, SqL.of h7D, rfl⟩, _, rfl, _, _, rfl, rfl, .inr ⟨_, rfl, _, _, rfl, rfl, .inl ⟨?_, ?_⟩, _, rfl, ?_, ?_, ?_⟩⟩
    · rw [List.length_map, plc_len]; omega
    · rw [List.length_map, plc_len]; omega
    · rw [List.length_map, plc_len]; split <;> omega
    · rw [List.length_map, plc_len]; split <;> omega
    rw [eN1]
    refine for_range (lo := 0) (n := N1) (fun i σ H' => ∃ (v8 : Option V) (S' : Hp) (xs : List V) (ts : List Stp), σ = [some (.ref p), some (.ref wa), some (.int n), some (.int sh), some (.int fi), some (.int (1 + ga)), some (.ref D1), some (.ref l), v8, none, none] ∧
      Pool S' H' p ∧ S' l = none ∧ Gr p S6 H6 S' H' ∧ H' l = some (.lst xs) ∧ Stps S' xs ts ∧ ts.map (·.1) = (plc fi (1 + ga) M).take i ∧ Low ts) ?_ ?_ ?_
    · exact ⟨none, S6, [], [], rfl, P7, sl6, g7, hl7, .nil, rfl, fun t h => by cases h⟩
    · rintro i σ H' hi ⟨v8, S', xs, ts, rfl, P', sl, g', hl', hst, hfs, low⟩
      have hiM : i < M := by omega
      have hD' := P'.ss _ _ (g'.st _ _ hpl)
      have hwa' := P'.ss _ _ (g'.st _ _ hw6)
      have lts : ts.length = i := by
        have := congrArg List.length hfs
        rw [List.length_map, List.length_take, plc_len] at this
        omega
      have lxs : xs.length = i := (Paired.length hst).trans lts
      have e0 : atI ((plc fi (1 + ga) M).map V.int) (0 + (i : Int)) = some (.int (fi + (1 + ga) * (i : Int))) := at_of (j := i) (by omega) (by rw [List.getElem?_map, plc_get hiM]; rfl)
      refine ⟨_, rfl, .inl ⟨rfl, _, SqL.of hl'⟩, _, rfl, _, rfl, D1, _, _, _, rfl, rfl, SqL.of hD', e0, _, rfl, _, rfl, p, wa, S', _, rfl, P', hwa', nwp, by rw [List.length_map]; exact w0, by rw [List.length_map]; exact w1, fun j v S2 H2 hv P2 g2 => ?_⟩
      obtain ⟨z, hz, rfl⟩ : ∃ z, z ∈ ws ∧ v = .str z := by
        obtain ⟨z, hz, e⟩ := List.mem_map.mp (List.mem_of_getElem? hv)
        exact ⟨z, hz, e.symm⟩
      obtain ⟨sl2, hl2⟩ := g2.loc nlp sl hl'
      have hD2 := P2.ss _ _ (g2.st _ _ (g'.st _ _ hpl))
      have hx2 : (0 : Int) < (((plc fi (1 + ga) M).map V.int).length : Int) := by rw [List.length_map, plc_len]; omega
      obtain ⟨k, hk, ek⟩ : ∃ k : Nat, k < M ∧ ((0 : Int) + (i : Int) + 1) % (((plc fi (1 + ga) M).map V.int).length : Int) = (k : Int) := by
        have a1 := Int.emod_nonneg ((0 : Int) + (i : Int) + 1) (b := (((plc fi (1 + ga) M).map V.int).length : Int)) (by omega)
        have a2 := Int.emod_lt_of_pos ((0 : Int) + (i : Int) + 1) hx2
        refine ⟨(((0 : Int) + (i : Int) + 1) % (((plc fi (1 + ga) M).map V.int).length : Int)).toNat, ?_, by omega⟩
        have a3 : (((plc fi (1 + ga) M).map V.int).length : Int) = (M : Int) := by rw [List.length_map, plc_len]
        omega
      have ek2 : atI ((plc fi (1 + ga) M).map V.int) (((0 : Int) + (i : Int) + 1) % (((plc fi (1 + ga) M).map V.int).length : Int)) = some (.int (fi + (1 + ga) * (k : Int))) := at_of (j := k) ek (by rw [List.getElem?_map, plc_get hk]; rfl)
      refine ⟨_, rfl, _, rfl, _, _, rfl, rfl, .inl ⟨_, rfl, _, rfl, _, _, rfl, .inl ⟨_, SqL.of hD2, rfl⟩, _, _, rfl, rfl, hx2, D1, _, _, _, rfl, rfl, SqL.of hD2, ek2, by show 3 ≤ sizeLine; decide, fun t ht => ?_⟩⟩
      have P3' := P2.new (o := .tup [.int (fi + (1 + ga) * (i : Int)), .str z, .int (fi + (1 + ga) * (k : Int))]) ht
      have g3' := (g'.trans g2).new (o := .tup [.int (fi + (1 + ga) * (i : Int)), .str z, .int (fi + (1 + ga) * (k : Int))]) P2.ss ht
      have nlt : l ≠ t := fun e => by rw [← e, hl2] at ht; cases ht
      have sl3 : upd S2 t (.tup [.int (fi + (1 + ga) * (i : Int)), .str z, .int (fi + (1 + ga) * (k : Int))]) l = none := (upd_ne nlt).trans sl2
      have sSt : Same S' (upd S2 t (.tup [.int (fi + (1 + ga) * (i : Int)), .str z, .int (fi + (1 + ga) * (k : Int))])) := g2.st.trans (same_upd (P2.ss.free ht))
      refine ⟨l, _, _, rfl, rfl, (upd_ne nlt).trans hl2, small1000 (by omega), _, _, xs ++ [.ref t], ts ++ [(fi + (1 + ga) * (i : Int), z, fi + (1 + ga) * (k : Int))], rfl, P3'.put sl3 nlp, sl3, g3'.put hl, upd_same, (hst.mono sSt).snoc ⟨t, rfl, upd_same⟩, ?_, ?_⟩
      · rw [List.map_append, hfs, take_next (plc_get hiM)]
        rfl
      · intro u hu
        rcases List.mem_append.mp hu with h | h
        · exact low u h
        · rw [List.mem_singleton.mp h]
          exact ⟨pb _ (List.mem_of_getElem? (plc_get hiM)), hws z hz, pb _ (List.mem_of_getElem? (plc_get hk))⟩
    rintro σ H8 ⟨v8, S8, xs8, ts8, rfl, P8, sl8, g8, hl8, hst8, hfs8, low8⟩
    have nd8 : (ts8.map (·.1)).Nodup := by
      rw [hfs8]
      exact (plc_nodup (by omega) M).sublist (List.take_sublist _ _)
    have few8 : ∀ s, cnt s ts8 ≤ 3 := fun s => by
      rw [cnt_count]
      have := List.nodup_iff_count.mp nd8 s
      omega
    have len8 : ts8.length = N1 := by
      have := congrArg List.length hfs8
      rw [List.length_map, List.length_take, plc_len] at this
      omega
    -- the further steps
    refine ⟨_, rfl, p, S8, 4, rfl, by decide, by decide, P8, fun e S9 H9 P9 g9 e0 e1 => ⟨_, rfl, rfl, .inr ⟨_, rfl, _, _, rfl, rfl, _, rfl, ?_, ?_, ?_⟩⟩⟩
    · split <;> omega
    · split <;> omega
    obtain ⟨N2, eN2, hN2, hN3⟩ : ∃ N2 : Nat, (e + (if decide (V.int sh = V.int 0) = true then 1 else 0)).toNat = N2 ∧ N2 ≤ 4 ∧ (sh = 0 → 1 ≤ N2) := by
      refine ⟨_, rfl, by split <;> omega, fun h => ?_⟩
      rw [decide_eq_true (by rw [h]), if_pos rfl]
      omega
    rw [eN2]
    obtain ⟨sl9, hl9⟩ := g9.loc nlp sl8 hl8
    refine for_range (lo := 0) (n := N2) (fun i σ H' => ∃ (v8 v9 : Option V) (S' : Hp) (xs : List V) (ts : List Stp), σ = [some (.ref p), some (.ref wa), some (.int n), some (.int sh), some (.int fi), some (.int (1 + ga)), some (.ref D1), some (.ref l), v8, v9, none] ∧
      Pool S' H' p ∧ S' l = none ∧ Gr p S6 H6 S' H' ∧ H' l = some (.lst xs) ∧ Stps S' xs ts ∧ ts.Nodup ∧ (∀ s, cnt s ts ≤ 3) ∧ Low ts ∧ ts.length ≤ N1 + i ∧ (0 < N1 ∨ 0 < i → 1 ≤ ts.length)) ?_ ?_ ?_
    · exact ⟨_, _, S9, xs8, ts8, rfl, P9, sl9, g8.trans g9, hl9, hst8.mono g9.st, nodup_of_fst nd8, few8, low8, by omega, fun h => by omega⟩
    · rintro i σ H' hi ⟨v8, v9, S', xs, ts, rfl, P', sl, g', hl', hst, nd, few, low, len, ne⟩
      have lxs : xs.length = ts.length := Paired.length hst
      have hpm : ∀ {S2 H2 : Hp}, Pool S2 H2 p → Gr p S6 H6 S2 H2 → H2 D1 = some (.lst ((plc fi (1 + ga) M).map V.int)) := fun P2 g2 => P2.ss _ _ (g2.st _ _ hpl)
      have hlp : 0 < ((plc fi (1 + ga) M).map V.int).length := by rw [List.length_map, plc_len]; omega
      have hlp2 : ((plc fi (1 + ga) M).map V.int).length < 1000 := by rw [List.length_map, plc_len]; omega
      have isP : ∀ {j : Nat} {v : V}, ((plc fi (1 + ga) M).map V.int)[j]? = some v → ∃ x, v = .int x ∧ 0 ≤ x ∧ x ≤ 96 := fun {j v} h => by
        obtain ⟨x, hx, e⟩ := List.mem_map.mp (List.mem_of_getElem? h)
        exact ⟨x, e.symm, pb x hx⟩
      refine ⟨_, rfl, _, rfl, p, D1, S', _, rfl, P', hpm P' g', nDp, hlp, hlp2, fun j1 v1 S1' H1' hv1 P1' g1' => ?_⟩
      refine ⟨_, rfl, _, rfl, p, wa, S1', _, rfl, P1', P1'.ss _ _ (g1'.st _ _ (g'.st _ _ hw6)), nwp, by rw [List.length_map]; exact w0, by rw [List.length_map]; exact w1, fun j2 v2 S2' H2' hv2 P2' g2' => ?_⟩
      have g12 := g'.trans (g1'.trans g2')
      refine ⟨_, rfl, _, rfl, p, D1, S2', _, rfl, P2', hpm P2' g12, nDp, hlp, hlp2, fun j3 v3 S3' H3' hv3 P3' g3' => ?_⟩
      obtain ⟨x1, rfl, a1, b1⟩ := isP hv1
      obtain ⟨x3, rfl, a3, b3⟩ := isP hv3
      obtain ⟨z, hz, rfl⟩ : ∃ z, z ∈ ws ∧ v2 = .str z := by
        obtain ⟨z, hz, e⟩ := List.mem_map.mp (List.mem_of_getElem? hv2)
        exact ⟨z, hz, e.symm⟩
      refine ⟨by show 3 ≤ sizeLine; decide, fun t ht => ?_⟩
      have gg := g12.trans g3'
      have P4' := P3'.new (o := .tup [.int x1, .str z, .int x3]) ht
      have g4' := gg.new (o := .tup [.int x1, .str z, .int x3]) P3'.ss ht
      have sS : Same S' (upd S3' t (.tup [.int x1, .str z, .int x3])) := (g1'.trans (g2'.trans g3')).st.trans (same_upd (P3'.ss.free ht))
      obtain ⟨sl3, hl3⟩ := (g1'.trans (g2'.trans g3')).loc nlp sl hl'
      have nlt : l ≠ t := fun e => by rw [← e, hl3] at ht; cases ht
      have sl4 : upd S3' t (.tup [.int x1, .str z, .int x3]) l = none := (upd_ne nlt).trans sl3
      have hl4 : upd H3' t (.tup [.int x1, .str z, .int x3]) l = some (.lst xs) := (upd_ne nlt).trans hl3
      have hst4 := hst.mono sS
      have hit : IsStp (upd S3' t (.tup [.int x1, .str z, .int x3])) (.ref t) (x1, z, x3) := ⟨t, rfl, upd_same⟩
      generalize upd S3' t (.tup [.int x1, .str z, .int x3]) = S4' at P4' g4' sS sl4 hst4 hit
      generalize upd H3' t (.tup [.int x1, .str z, .int x3]) = H4' at P4' g4' hl4 ⊢
      have okt : StpOk (x1, z, x3) := ⟨⟨a1, by show x1 ≤ 99; omega⟩, hws z hz, a3, by show x3 ≤ 99; omega⟩
      have hit4 := hit.mono P4'.ss
      have hstH := hst4.mono P4'.ss
      refine ⟨_, rfl, _, rfl, _, _, hit4.dp, .lst (SqL.of hl4) (Stps.dpAll hstH), encS_shaped okt, encSs_shaped low.ok, _, rfl, ?_⟩
      rw [any_encS]
      have stay : ∀ {H5 : Hp}, Same H4' H5 → (Pool S4' H5 p ∧ Gr p S6 H6 S4' H5 ∧ H5 l = some (.lst xs)) := fun s5 => ⟨P4'.same s5, g4'.same s5, s5 _ _ hl4⟩
      by_cases hm : ((x1, z, x3) : Stp) ∈ ts
      · rw [decide_eq_true hm]
        exact ⟨_, _, S4', xs, ts, rfl, P4', sl4, g4', hl4, hst4, nd, few, low, by omega, fun _ => by have := List.length_pos_of_mem hm; omega⟩
      rw [decide_eq_false hm]
      obtain ⟨at4, e4, ht4⟩ := id hit4
      cases e4
      refine ⟨_, rfl, l, rfl, ⟨_, SqL.of hl4⟩, fun D2 hD2 => lc_pure (oneV H4' x1) (SqL.of hl4) (by omega) (fun _ => rfl) (fun x0 H5 hx0 s5 Q5 q5 => ?_) hD2 (fun H5 s5 h5 => ?_)⟩
      · obtain ⟨t0, _, a0, rfl, ha0⟩ := paired_memL hstH x0 hx0
        have e0 : oneV H4' x1 (.ref a0) = if decide (V.int t0.1 = V.int x1) = true then some (.int 1) else none := by
          unfold oneV fstV
          simp only [ha0, stpV]
          split <;> rfl
        refine ⟨_, rfl, a0, _, 0, _, rfl, rfl, SqT.of (s5 _ _ ha0), atI_nat (j := 0) rfl, _, rfl, t, _, 0, _, rfl, rfl, SqT.of (s5 _ _ ht4), atI_nat (j := 0) rfl, rfl, _, rfl, ite2 (fun c => ?_) (fun c => ?_)⟩
        · have := q5 H5 (Same.refl _)
          rw [e0, if_pos c] at this
          exact this
        · have := q5 H5 (Same.refl _)
          rw [e0, if_neg c] at this
          exact this
      · have hlen := oneV_len (H := H4') x1 hstH
        refine ⟨_, _, rfl, .inl ⟨_, SqL.of h5, rfl⟩, _, _, rfl, rfl, _, rfl, ite2 (fun c => ?_) (fun c => ?_)⟩
        · have c' : cnt x1 ts < 3 := by
            have := of_decide_eq_true c
            rw [hlen] at this
            omega
          obtain ⟨P5', g5', hl5⟩ := stay s5
          refine ⟨_, rfl, .inl ⟨rfl, _, SqL.of hl5⟩, _, rfl, l, _, _, rfl, rfl, hl5, small1000 (by omega), ?_⟩
          refine ⟨_, _, S4', xs ++ [.ref t], ts ++ [(x1, z, x3)], rfl, P5'.put sl4 nlp, sl4, g5'.put hl, upd_same, hst4.snoc hit, ?_, fun s => ?_, ?_, ?_, ?_⟩
          · rw [List.nodup_append]
            refine ⟨nd, by simp, fun a ha b hb e => ?_⟩
            rw [List.mem_singleton.mp hb] at e
            exact hm (e ▸ ha)
          · rw [cnt_append]
            by_cases hs : x1 = s
            · subst hs
              have h1 : cnt x1 [(x1, z, x3)] = 1 := cnt_one (x1, z, x3)
              omega
            · rw [cnt_other (t := (x1, z, x3)) hs]
              exact few s
          · intro u hu
            rcases List.mem_append.mp hu with h | h
            · exact low u h
            · rw [List.mem_singleton.mp h]
              exact ⟨⟨a1, b1⟩, hws z hz, a3, b3⟩
          · rw [List.length_append]
            simp
            omega
          · intro _
            rw [List.length_append]
            simp
        · obtain ⟨P5', g5', hl5⟩ := stay s5
          have c' : ¬ cnt x1 ts < 3 := by
            intro h
            apply c
            rw [hlen]
            exact decide_eq_true (by omega)
          refine ⟨_, _, S4', xs, ts, rfl, P5', sl4, g5', hl5, hst4, nd, few, low, by omega, fun _ => ?_⟩
          have : cnt x1 ts ≤ ts.length := List.length_filter_le _ _
          omega
    rintro σ H' ⟨v8, v9, S', xs, ts, rfl, P', sl, g', hl', hst, nd, few, low, len, ne⟩
    have lxs : xs.length = ts.length := Paired.length hst
    have hlp : 0 < ((plc fi (1 + ga) M).map V.int).length := by rw [List.length_map, plc_len]; omega
    have hlp2 : ((plc fi (1 + ga) M).map V.int).length < 1000 := by rw [List.length_map, plc_len]; omega
    refine ⟨_, rfl, _, rfl, p, D1, S', _, rfl, P', P'.ss _ _ (g'.st _ _ hpl), nDp, hlp, hlp2, fun j1 v1 S1' H1' hv1 P1' g1' => ?_⟩
    obtain ⟨x1, hx1, rfl⟩ : ∃ x, x ∈ plc fi (1 + ga) M ∧ v1 = .int x := by
      obtain ⟨x, hx, e⟩ := List.mem_map.mp (List.mem_of_getElem? hv1)
      exact ⟨x, hx, e.symm⟩
    obtain ⟨sl1, hl1⟩ := g1'.loc nlp sl hl'
    refine ⟨_, rfl, l, _, rfl, .inl ⟨SqL.of hl1, fun r hr => ?_⟩⟩
    have P2' := P1'.new (o := .tup xs) hr
    have g2' := (g'.trans g1').new (o := .tup xs) P1'.ss hr
    refine ⟨by show 2 ≤ sizeLine; decide, fun t' ht' => ?_⟩
    have P3' := P2'.new (o := .tup [.int x1, .ref r]) ht'
    have g3' := g2'.new (o := .tup [.int x1, .ref r]) P2'.ss ht'
    have nrt : r ≠ t' := fun e => by rw [← e, upd_same] at ht'; cases ht'
    refine q t' r x1 xs ts _ _ P3' (g6.trans g3') upd_same ((upd_ne nrt).trans upd_same) (hst.mono (g1'.st.trans ((same_upd (P1'.ss.free hr)).trans (same_upd (P2'.ss.free ht'))))) ⟨?_, by omega, low.ok, nd, few⟩ low (pb x1 hx1) (by omega)
    refine ne ?_
    rcases hN1 with ⟨h, e⟩ | ⟨h, e⟩
    · exact .inl (by omega)
    · exact .inr (by have := hN3 h; omega)
end
end WW

set_option Elab.async false
set_option linter.all false
set_option maxRecDepth 100000
set_option maxHeartbeats 4000000
namespace WW
open PySem PySem.Spec PyProof.Rows L2
structure Wd (p : Addr) (S0 H0 S H : Hp) : Prop where
  pl : Pool S H p
  gr : Gr p S0 H0 S H
theorem Wd.alloc {p : Addr} {S0 H0 S H : Hp} {a : Addr} (w : Wd p S0 H0 S H) (n : H a = none) (o : HO) : Wd p S0 H0 (upd S a o) (upd H a o) ∧ Same S (upd S a o) ∧ upd S a o a = some o :=
  ⟨⟨w.pl.new n, w.gr.new w.pl.ss n⟩, same_upd (w.pl.ss.free n), upd_same⟩
theorem Wd.then_ {p : Addr} {S0 H0 S H S' H' : Hp} (w : Wd p S0 H0 S H) (P' : Pool S' H' p) (g : Gr p S H S' H') : Wd p S0 H0 S' H' ∧ Same S S' := ⟨⟨P', w.gr.trans g⟩, g.st⟩
theorem Wd.ss {p : Addr} {S0 H0 S H : Hp} (w : Wd p S0 H0 S H) : Same S H := w.pl.ss
theorem Wd.more {p : Addr} {S0 H0 S H H' : Hp} (w : Wd p S0 H0 S H) (s : Same H H') : Wd p S0 H0 S H' := ⟨w.pl.same s, w.gr.same s⟩
theorem Stps.drop {H : Hp} : ∀ (i : Nat) {xs : List V} {ts : List Stp}, Stps H xs ts → Stps H (xs.drop i) (ts.drop i)
  | 0, _, _, h => h
  | _ + 1, _, _, .nil => .nil
  | i + 1, _, _, .cons _ t => Stps.drop i t
theorem Stps.append {H : Hp} : ∀ {xs ys : List V} {ts us : List Stp}, Stps H xs ts → Stps H ys us → Stps H (xs ++ ys) (ts ++ us)
  | _, _, _, _, .nil, h => h
  | _, _, _, _, .cons r t, h => .cons r (Stps.append t h)
theorem Stps.cast {S : Hp} {xs ys : List V} {ts : List Stp} (e : ys = xs) (h : Stps S xs ts) : Stps S ys ts := by
  subst e
  exact h
/-! ### rows changed at a place -/
theorem split_at {ts : List Stp} {d : Nat} {t : Stp} (h : ts[d]? = some t) : ts = ts.take d ++ t :: ts.drop (d + 1) := by
  obtain ⟨hd, e⟩ := List.getElem?_eq_some_iff.mp h
  rw [← e, List.getElem_cons_drop, List.take_append_drop]
theorem Fine.less {ts : List Stp} (F : Fine ts) {d : Nat} (hd : d < ts.length) (h : 1 < ts.length) : Fine (ts.take d ++ ts.drop (d + 1)) := by
  have hs : (ts.take d ++ ts.drop (d + 1)).Sublist ts := by
    have e := split_at (List.getElem?_eq_getElem hd)
    conv => rhs; rw [e]
    exact List.Sublist.append (List.Sublist.refl _) (List.sublist_cons_self _ _)
  refine ⟨?_, ?_, fun t ht => F.ok t (hs.subset ht), F.nd.sublist hs, fun s => ?_⟩
  · rw [List.length_append, List.length_take, List.length_drop]
    omega
  · exact Nat.le_trans hs.length_le F.l2
  · exact Nat.le_trans (hs.filter _).length_le (F.few s)
theorem low_no {ts : List Stp} (l : Low ts) {s : Int} (h : 96 < s) : cnt s ts = 0 := by
  unfold cnt
  rw [List.length_eq_zero_iff, List.filter_eq_nil_iff]
  intro t ht
  have := (l t ht).1.2
  simp
  omega
theorem Fine.more {ts : List Stp} (F : Fine ts) (l : Low ts) (hl : ts.length ≤ 10) {z : Str} {j : Int} (hz : NameOk z) (hj : 0 ≤ j ∧ j ≤ 99) : Fine (ts ++ [(98, z, j)]) := by
  have e0 := low_no l (s := 98) (by decide)
  refine ⟨?_, ?_, fun t ht => ?_, ?_, fun s => ?_⟩
  · rw [List.length_append]
    simp
  · rw [List.length_append]
    simp
    omega
  · rcases List.mem_append.mp ht with h | h
    · exact F.ok t h
    · rw [List.mem_singleton.mp h]
      exact ⟨⟨by show (0 : Int) ≤ 98; decide, by show (98 : Int) ≤ 99; decide⟩, hz, hj⟩
  · rw [List.nodup_append]
    refine ⟨F.nd, by simp, fun a ha b hb e => ?_⟩
    rw [List.mem_singleton.mp hb] at e
    have := (l a ha).1.2
    rw [e] at this
    exact absurd this (by show ¬ (98 : Int) ≤ 96; decide)
  · rw [cnt_append]
    by_cases hs : (98 : Int) = s
    · subst hs
      have h1 : cnt 98 [((98 : Int), z, j)] = 1 := cnt_one ((98 : Int), z, j)
      omega
    · rw [cnt_other (t := ((98 : Int), z, j)) hs]
      exact F.few s
theorem Fine.laid {ts : List Stp} (F : Fine ts) (l : Low ts) {d : Nat} {t u : Stp} (h : ts[d]? = some t) (ok : StpOk u) (hu : u.1 = t.1 ∨ u.1 = 97) (nu : u ∉ ts.take d ++ ts.drop (d + 1)) : Fine (ts.take d ++ [u] ++ ts.drop (d + 1)) := by
  have e := split_at h
  have pm : (ts.take d ++ [u] ++ ts.drop (d + 1)).Perm (u :: (ts.take d ++ ts.drop (d + 1))) := by
    rw [List.append_assoc]
    exact List.perm_middle
  have pt : ts.Perm (t :: (ts.take d ++ ts.drop (d + 1))) := by
    conv => lhs; rw [e]
    exact List.perm_middle
  have hs : (ts.take d ++ ts.drop (d + 1)).Sublist ts := by
    conv => rhs; rw [e]
    exact List.Sublist.append (List.Sublist.refl _) (List.sublist_cons_self _ _)
  refine Fine.perm (ts := u :: (ts.take d ++ ts.drop (d + 1))) ⟨by simp, ?_, fun v hv => ?_, List.nodup_cons.mpr ⟨nu, F.nd.sublist hs⟩, fun s => ?_⟩ pm
  · have h1 := pt.length_eq
    have h2 := F.l2
    simp at h1 ⊢
    omega
  · rcases List.mem_cons.mp hv with q | q
    · rw [q]
      exact ok
    · exact F.ok v (hs.subset q)
  · have h1 := F.few s
    rw [cnt_perm s pt] at h1
    have c1 : ∀ (x : Stp) (l : List Stp), cnt s (x :: l) = cnt s [x] + cnt s l := fun x l => cnt_append s [x] l
    rw [c1] at h1 ⊢
    rcases hu with q | q
    · have : cnt s [u] = cnt s [t] := by
        unfold cnt
        by_cases hh : t.1 = s
        · simp [q, hh]
        · simp [q, hh]
      omega
    · by_cases hs97 : s = 97
      · have z1 := low_no l (s := 97) (by decide)
        have z2 : cnt s (ts.take d ++ ts.drop (d + 1)) ≤ cnt s ts := (hs.filter _).length_le
        have z3 : cnt s [u] ≤ 1 := List.length_filter_le _ _
        rw [hs97] at z2 z3 ⊢
        omega
      · rw [cnt_other (t := u) (by rw [q]; exact fun x => hs97 x.symm)]
        omega
theorem zz_ok : NameOk "zz" := ⟨by decide, by decide, by decide +kernel⟩
section
variable {P : Program} {w : World} {K : PySem.W.Frag} {mg : Str → Option Value} {base : Heap} {f fA fB : Addr} {fd fdA fdB : FuncData}
abbrev sLchanged : Stmt := topS 25
abbrev nLchanged : List Str := ["_law_pool_here", "_law_start", "_law_steps", "_law_kind", "_law_at", "_law_step", "_law_laid"]
theorem scLchanged : FnScope nLchanged ["_law_pool_here", "_law_start", "_law_steps"] (defScope sLchanged) := ⟨rfl, rfl, rfl, by decide +kernel, rfl, by decide +kernel, by decide +kernel⟩
def spChanged : Sp := fun vs H Q _ => ∃ (p oa : Addr) (b : Int) (S : Hp) (xs : List V) (ts : List Stp), vs = [.ref p, .int b, .ref oa] ∧ Pool S H p ∧ S oa = some (.lst xs) ∧ Stps S xs ts ∧ Fine ts ∧ Low ts ∧ ts.length ≤ 10 ∧ (0 ≤ b ∧ b ≤ 96) ∧
  ∀ (t r : Addr) (b' : Int) (xs' : List V) (ts' : List Stp) (S' H' : Hp), Pool S' H' p → Gr p S H S' H' → S' t = some (.tup [.int b', .ref r]) → S' r = some (.lst xs') → Stps S' xs' ts' → Fine ts' → (0 ≤ b' ∧ b' ≤ 99) → Q (.ref t) H'
theorem ok_changed (D : Df K mg "_law_changed" sLchanged ["_law_pool_here", "_law_start", "_law_steps"] f fd) (DLdraw : Df K mg "_law_draw" sLdraw ["_law_pool_here", "_law_many"] fA fdA) (DLpick : Df K mg "_law_pick" sLpick ["_law_pool_here", "_law_items"] fB fdB) (T : Bl mg) :
    FnOk P w K mg base CX0 3 f fd ["_law_pool_here", "_law_start", "_law_steps"] spChanged := by
  have GLdraw : FnOk P w K mg base CX0 1 fA fdA ["_law_pool_here", "_law_many"] spDraw := ok_draw DLdraw T
  have GLpick : FnOk P w K mg base CX0 2 fB fdB ["_law_pool_here", "_law_items"] spPick := ok_pick DLpick DLdraw T
  refine D.fn.ok scLchanged (fun vs H Q E h => ?_) (fun cdv A outer s H vs Q E hr h => ?_)
  · obtain ⟨p, oa, b, S, xs, ts, rfl, _⟩ := h
    rfl
  · obtain ⟨p, oa, b, S, xs, ts, rfl, P0, hoa, hst, F, low, hlen, ⟨b0, b1⟩, q⟩ := h
    refine ⟨_, (pss_cons (ps_set (i := 3) scLchanged.nd rfl (Or.inl rfl) (pe_df DLdraw GLdraw (hr.mono (by decide)) (pa_cons (pv 0) (pa_cons pe_int pa_nil))))
      (pss_cons (ps_set (i := 4) scLchanged.nd rfl (Or.inl rfl) (pe_df DLdraw GLdraw (hr.mono (by decide)) (pa_cons (pv 0) (pa_cons (pe_callB call_len (by rfl) T.len (by decide +kernel) (pa_cons (pv 2) pa_nil)) pa_nil))))
      (pss_cons (ps_set (i := 5) scLchanged.nd rfl (Or.inl rfl) (pe_ix ix_list (pv 2) (pv 4) (fun _ _ => rfl)))
      (pss_cons (ps_if (pt_cmpR op_eq (pv 3) pe_int (nomark _)) (pss_one (ps_ret (pe_tup (pa_cons (pe_df DLpick GLpick (hr.mono (by decide)) (pa_cons (pv 0) (pa_cons (pe_lst (pa_cons (pe_ix ix_tup (pv 5) pe_int (fun _ _ => rfl)) (pa_cons (pe_ix ix_tup (pv 5) pe_int (fun _ _ => rfl)) (pa_cons (pv 1) (pa_cons pe_int pa_nil))))) pa_nil))) (pa_cons (pv 2) pa_nil))))) pss_nil)
      (C8.pss_cut (ps_if (PW.pt (pw_and (pt_cmpR op_eq (pv 3) pe_int (nomark _)) (pw_and1 (pt_cmpR op_gt (pe_callB call_len (by rfl) T.len (by decide +kernel) (pa_cons (pv 2) pa_nil)) pe_int (nomark _))))) (pss_one (ps_ret (pe_tup (pa_cons (pv 1) (pa_cons (pe_op op_cat (pe_slice sl_list (pv 2) po_none (po_some (pv 4))) (pe_slice sl_list (pv 2) (po_some (pe_op op_add (pv 4) pe_int)) po_none)) pa_nil))))) pss_nil)
      (pss_cons (ps_if (pt_cmpR op_eq (pv 3) pe_int (nomark _)) (pss_one (ps_ret (pe_tup (pa_cons (pv 1) (pa_cons (pe_op op_cat (pv 2) (pe_lst (pa_cons (pe_tup (pa_cons pe_int (pa_cons (pe_ix ix_tup (pv 5) pe_int (fun _ _ => rfl)) (pa_cons (pe_ix ix_tup (pv 5) pe_int (fun _ _ => rfl)) pa_nil)))) pa_nil))) pa_nil))))) pss_nil)
      (pss_cons (ps_set (i := 6) scLchanged.nd rfl (Or.inl rfl) (pe_ix ix_list (pe_lst (pa_cons (pe_tup (pa_cons (pe_ix ix_tup (pv 5) pe_int (fun _ _ => rfl)) (pa_cons pe_str (pa_cons (pe_ix ix_tup (pv 5) pe_int (fun _ _ => rfl)) pa_nil)))) (pa_cons (pe_tup (pa_cons pe_int (pa_cons (pe_ix ix_tup (pv 5) pe_int (fun _ _ => rfl)) (pa_cons (pe_ix ix_tup (pv 5) pe_int (fun _ _ => rfl)) pa_nil)))) (pa_cons (pe_tup (pa_cons (pe_ix ix_tup (pv 5) pe_int (fun _ _ => rfl)) (pa_cons (pe_ix ix_tup (pv 5) pe_int (fun _ _ => rfl)) (pa_cons pe_int pa_nil)))) (pa_cons (pv 5) pa_nil))))) (pe_df DLdraw GLdraw (hr.mono (by decide)) (pa_cons (pv 0) (pa_cons pe_int pa_nil))) (fun _ _ => rfl)))
      (pss_cons (ps_if (pt_cmpR (op_inD (hu65 hr)) (pv 6) (pe_op op_cat (pe_slice sl_list (pv 2) po_none (po_some (pv 4))) (pe_slice sl_list (pv 2) (po_some (pe_op op_add (pv 4) pe_int)) po_none)) (by rfl)) (pss_one (ps_ret (pe_tup (pa_cons (pv 1) (pa_cons (pv 2) pa_nil))))) pss_nil)
      (pss_one (ps_ret (pe_tup (pa_cons (pv 1) (pa_cons (pe_op op_cat (pe_op op_cat (pe_slice sl_list (pv 2) po_none (po_some (pv 4))) (pe_lst (pa_cons (pv 6) pa_nil))) (pe_slice sl_list (pv 2) (po_some (pe_op op_add (pv 4) pe_int)) po_none)) pa_nil))))))))))))), ?_⟩
    have lxs : xs.length = ts.length := Paired.length hst
    have l1 := F.l1
    have W0 : Wd p S H S H := ⟨P0, Gr.refl⟩
    refine ⟨_, rfl, p, S, 6, rfl, by decide, by decide, P0, fun kd S1 H1 P1 g1 k0 k1 => ?_⟩
    obtain ⟨W1, s1⟩ := W0.then_ P1 g1
    refine ⟨_, rfl, _, rfl, _, _, rfl, .inl ⟨_, SqL.of (W1.ss _ _ (s1 _ _ hoa)), rfl⟩, p, S1, _, rfl, by omega, by omega, P1, fun d S2 H2 P2 g2 d0 d1 => ?_⟩
    obtain ⟨W2, s2⟩ := W1.then_ P2 g2
    have s02 := s1.trans s2
    have hoa2 := s02 _ _ hoa
    have hst2 := hst.mono s02
    obtain ⟨dn, edn⟩ : ∃ dn : Nat, d = (dn : Int) := ⟨d.toNat, by omega⟩
    subst edn
    have hdl : dn < xs.length := by omega
    obtain ⟨t, ht, ta, hta, hta2⟩ := paired_get hst2 (List.getElem?_eq_getElem hdl)
    have tlow := low t (List.mem_of_getElem? ht)
    refine ⟨_, rfl, _, rfl, oa, xs, _, _, rfl, rfl, SqL.of (W2.ss _ _ hoa2), atI_nat (List.getElem?_eq_getElem hdl), ?_⟩
    rw [hta]
    have fin : ∀ {S3 H3 : Hp} (W3 : Wd p S H S3 H3) (r : Addr) (b' : Int) (xs' : List V) (ts' : List Stp) (u : Addr), H3 u = none → S3 r = some (.lst xs') → Stps S3 xs' ts' → Fine ts' → (0 ≤ b' ∧ b' ≤ 99) → Q (.ref u) (upd H3 u (.tup [.int b', .ref r])) := fun W3 r b' xs' ts' u nu hr' hst' F' hb' => by
      obtain ⟨W4, s4, h4⟩ := W3.alloc nu (.tup [.int b', .ref r])
      exact q u r b' xs' ts' _ _ W4.pl W4.gr h4 (s4 _ _ hr') (hst'.mono s4) F' hb'
    refine ⟨_, rfl, rfl, _, rfl, ite2 (fun c => ?_) (fun c => ?_)⟩
    · -- kind 0
      refine ⟨_, rfl, _, rfl, ta, _, 0, _, rfl, rfl, SqT.of (W2.ss _ _ hta2), atI_nat (j := 0) rfl, _, rfl, ta, _, 2, _, rfl, rfl, SqT.of (W2.ss _ _ hta2), atI_nat (j := 2) rfl, _, rfl, by show 4 ≤ sizeLine; decide, fun l hl => ?_⟩
      obtain ⟨W3, s3, h3⟩ := W2.alloc hl (.lst [.int t.1, .int t.2.2, .int b, .int 99])
      have nlp : l ≠ p := fun z => W2.pl.has (by rw [← z]; exact hl)
      refine ⟨p, l, _, _, rfl, W3.pl, W3.ss _ _ h3, nlp, by show 0 < 4; decide, by show 4 < 1000; decide, fun i v S4 H4 hv P4 g4 => ?_⟩
      obtain ⟨W4, s4⟩ := W3.then_ P4 g4
      obtain ⟨b', rfl, hb'⟩ : ∃ b', v = .int b' ∧ 0 ≤ b' ∧ b' ≤ 99 := by
        have hm := List.mem_of_getElem? hv
        simp only [List.mem_cons, List.not_mem_nil, or_false] at hm
        rcases hm with h | h | h | h
        · exact ⟨_, h, tlow.1.1, by have := tlow.1.2; omega⟩
        · exact ⟨_, h, tlow.2.2.1, by have := tlow.2.2.2; omega⟩
        · exact ⟨_, h, b0, by omega⟩
        · exact ⟨_, h, by decide, by decide⟩
      refine ⟨_, rfl, by show 2 ≤ sizeLine; decide, fun u nu => ?_⟩
      exact fin W4 oa b' xs ts u nu (s4 _ _ (s3 _ _ hoa2)) (hst2.mono (s3.trans s4)) F hb'
    have hoaH := W2.ss _ _ hoa2
    have htaH := W2.ss _ _ hta2
    -- kind 1
    refine ⟨fun σ H' => σ = [some (.ref p), some (.int b), some (.ref oa), some (.int kd), some (.int (dn : Int)), some (.ref ta), none] ∧ H' = H2, ?_, ?_⟩
    · refine ⟨_, rfl, rfl, _, rfl, ite2 (fun c1 => ?_) (fun c1 => ⟨rfl, rfl⟩)⟩
      refine ⟨_, rfl, _, _, rfl, .inl ⟨_, SqL.of hoaH, rfl⟩, _, _, rfl, rfl, _, rfl, ite2 (fun c2 => ?_) (fun c2 => ⟨rfl, rfl⟩)⟩
      have c2' : 1 < ts.length := by
        have := of_decide_eq_true c2
        omega
      refine ⟨_, rfl, _, rfl, _, rfl, _, rfl, oa, _, rfl, SqL.of hoaH, fun l hl => ?_⟩
      obtain ⟨W3, s3, h3⟩ := W2.alloc hl (.lst (cutV xs none (some (dn : Int))))
      refine ⟨_, rfl, _, rfl, _, _, rfl, rfl, _, rfl, oa, _, rfl, SqL.of (W3.ss _ _ (s3 _ _ hoa2)), fun l2 hl2 => ?_⟩
      obtain ⟨W4, s4, h4⟩ := W3.alloc hl2 (.lst (cutV xs (some ((dn : Int) + 1)) none))
      have ec : cutV xs (some ((dn : Int) + 1)) none = xs.drop (dn + 1) := by
        rw [show ((dn : Int) + 1) = ((dn + 1 : Nat) : Int) by omega]
        exact cut_from _ _
      refine ⟨l, l2, _, _, rfl, rfl, W4.ss _ _ (s4 _ _ h3), W4.ss _ _ h4, ?_, fun l3 hl3 => ?_⟩
      · rw [cut_to, ec, List.length_take, List.length_drop]
        exact Nat.le_of_lt (small1000 (by omega))
      obtain ⟨W5, s5, h5⟩ := W4.alloc hl3 (.lst (cutV xs none (some (dn : Int)) ++ cutV xs (some ((dn : Int) + 1)) none))
      refine ⟨by show 2 ≤ sizeLine; decide, fun u nu => ?_⟩
      have hst5 := hst2.mono (s3.trans (s4.trans s5))
      exact fin W5 l3 b _ (ts.take dn ++ ts.drop (dn + 1)) u nu h5 (((hst5.take dn).append (hst5.drop (dn + 1))).cast (by rw [cut_to, ec])) (F.less (by omega) c2') ⟨b0, by omega⟩
    rintro σ H' ⟨rfl, rfl⟩
    -- kind 2
    refine ⟨_, rfl, rfl, _, rfl, ite2 (fun c1 => ?_) (fun c1 => ?_)⟩
    · refine ⟨_, rfl, _, rfl, _, rfl, ta, _, 1, _, rfl, rfl, SqT.of htaH, atI_nat (j := 1) rfl, _, rfl, ta, _, 2, _, rfl, rfl, SqT.of htaH, atI_nat (j := 2) rfl, by show 3 ≤ sizeLine; decide, fun v hv => ?_⟩
      obtain ⟨W3, s3, h3⟩ := W2.alloc hv (.tup [.int 98, .str t.2.1, .int t.2.2])
      refine ⟨by show 1 ≤ sizeLine; decide, fun l hl => ?_⟩
      obtain ⟨W4, s4, h4⟩ := W3.alloc hl (.lst [.ref v])
      refine ⟨oa, l, _, _, rfl, rfl, W4.ss _ _ (s4 _ _ (s3 _ _ hoa2)), W4.ss _ _ h4, Nat.le_of_lt (small1000 (by show xs.length + 1 ≤ 1000; omega)), fun l3 hl3 => ?_⟩
      obtain ⟨W5, s5, h5⟩ := W4.alloc hl3 (.lst (xs ++ [.ref v]))
      refine ⟨by show 2 ≤ sizeLine; decide, fun u nu => ?_⟩
      have hst5 := hst2.mono (s3.trans (s4.trans s5))
      exact fin W5 l3 b _ _ u nu h5 (hst5.snoc (t := (98, t.2.1, t.2.2)) ⟨v, rfl, s5 _ _ (s4 _ _ h3)⟩) (F.more low hlen tlow.2.1 ⟨tlow.2.2.1, by have := tlow.2.2.2; omega⟩) ⟨b0, by omega⟩
    -- a step laid in its place
    refine ⟨_, rfl, ta, _, 0, _, rfl, rfl, SqT.of htaH, atI_nat (j := 0) rfl, _, rfl, ta, _, 2, _, rfl, rfl, SqT.of htaH, atI_nat (j := 2) rfl, by show 3 ≤ sizeLine; decide, fun v1 hv1 => ?_⟩
    obtain ⟨W3, s3, h3⟩ := W2.alloc hv1 (.tup [.int t.1, .str "zz", .int t.2.2])
    have hta3 := W3.ss _ _ (s3 _ _ hta2)
    refine ⟨_, rfl, ta, _, 1, _, rfl, rfl, SqT.of hta3, atI_nat (j := 1) rfl, _, rfl, ta, _, 2, _, rfl, rfl, SqT.of hta3, atI_nat (j := 2) rfl, by show 3 ≤ sizeLine; decide, fun v2 hv2 => ?_⟩
    obtain ⟨W4, s4, h4⟩ := W3.alloc hv2 (.tup [.int 97, .str t.2.1, .int t.2.2])
    have hta4 := W4.ss _ _ (s4 _ _ (s3 _ _ hta2))
    refine ⟨_, rfl, ta, _, 0, _, rfl, rfl, SqT.of hta4, atI_nat (j := 0) rfl, _, rfl, ta, _, 1, _, rfl, rfl, SqT.of hta4, atI_nat (j := 1) rfl, by show 3 ≤ sizeLine; decide, fun v3 hv3 => ?_⟩
    obtain ⟨W5, s5, h5⟩ := W4.alloc hv3 (.tup [.int t.1, .str t.2.1, .int 96])
    refine ⟨_, rfl, by show 4 ≤ sizeLine; decide, fun l hl => ?_⟩
    obtain ⟨W6, s6, h6⟩ := W5.alloc hl (.lst [.ref v1, .ref v2, .ref v3, .ref ta])
    have nlp : l ≠ p := fun z => W5.pl.has (by rw [← z]; exact hl)
    refine ⟨_, rfl, p, _, 4, rfl, by decide, by decide, W6.pl, fun e S7 H7 P7 g7 e0 e1 => ?_⟩
    obtain ⟨W7, s7⟩ := W6.then_ P7 g7
    have s26 := s3.trans (s4.trans (s5.trans (s6.trans s7)))
    obtain ⟨v, u, hv, hit, oku, hu⟩ : ∃ (v : Addr) (u : Stp), atI [V.ref v1, V.ref v2, V.ref v3, V.ref ta] e = some (.ref v) ∧ IsStp S7 (.ref v) u ∧ StpOk u ∧ (u.1 = t.1 ∨ u.1 = 97) := by
      have okt := F.ok t (List.mem_of_getElem? ht)
      obtain rfl | rfl | rfl | rfl : e = 0 ∨ e = 1 ∨ e = 2 ∨ e = 3 := by omega
      · exact ⟨v1, (t.1, "zz", t.2.2), rfl, ⟨v1, rfl, s7 _ _ (s6 _ _ (s5 _ _ (s4 _ _ h3)))⟩, ⟨okt.1, zz_ok, okt.2.2⟩, .inl rfl⟩
      · exact ⟨v2, (97, t.2.1, t.2.2), rfl, ⟨v2, rfl, s7 _ _ (s6 _ _ (s5 _ _ h4))⟩, ⟨⟨by show (0 : Int) ≤ 97; decide, by show (97 : Int) ≤ 99; decide⟩, okt.2.1, okt.2.2⟩, .inr rfl⟩
      · exact ⟨v3, (t.1, t.2.1, 96), rfl, ⟨v3, rfl, s7 _ _ (s6 _ _ h5)⟩, ⟨okt.1, okt.2.1, by show (0 : Int) ≤ 96; decide, by show (96 : Int) ≤ 99; decide⟩, .inl rfl⟩
      · exact ⟨ta, t, rfl, ⟨ta, rfl, s26 _ _ hta2⟩, okt, .inl rfl⟩
    refine ⟨l, _, e, _, rfl, rfl, SqL.of (W7.ss _ _ (s7 _ _ h6)), hv, ?_⟩
    have hoa7 := s26 _ _ hoa2
    have hst7 := hst2.mono s26
    have ec : cutV xs (some ((dn : Int) + 1)) none = xs.drop (dn + 1) := by
      rw [show ((dn : Int) + 1) = ((dn + 1 : Nat) : Int) by omega]
      exact cut_from _ _
    -- is it there already
    refine ⟨_, rfl, _, rfl, _, rfl, _, rfl, oa, _, rfl, SqL.of (W7.ss _ _ hoa7), fun l1 hl1 => ?_⟩
    obtain ⟨W8, s8, h8⟩ := W7.alloc hl1 (.lst (cutV xs none (some (dn : Int))))
    refine ⟨_, rfl, _, rfl, _, _, rfl, rfl, _, rfl, oa, _, rfl, SqL.of (W8.ss _ _ (s8 _ _ hoa7)), fun l2 hl2 => ?_⟩
    obtain ⟨W9, s9, h9⟩ := W8.alloc hl2 (.lst (cutV xs (some ((dn : Int) + 1)) none))
    have lsum : (cutV xs none (some (dn : Int))).length + (cutV xs (some ((dn : Int) + 1)) none).length ≤ xs.length := by
      rw [cut_to, ec, List.length_take, List.length_drop]
      omega
    refine ⟨l1, l2, _, _, rfl, rfl, W9.ss _ _ (s9 _ _ h8), W9.ss _ _ h9, Nat.le_of_lt (small1000 (by omega)), fun l3 hl3 => ?_⟩
    obtain ⟨Wa, sa, ha⟩ := W9.alloc hl3 (.lst (cutV xs none (some (dn : Int)) ++ cutV xs (some ((dn : Int) + 1)) none))
    have s7a := s8.trans (s9.trans sa)
    have hsta := hst7.mono s7a
    have hita := hit.mono s7a
    have hcut : Stps _ (cutV xs none (some (dn : Int)) ++ cutV xs (some ((dn : Int) + 1)) none) (ts.take dn ++ ts.drop (dn + 1)) := ((hsta.take dn).append (hsta.drop (dn + 1))).cast (by rw [cut_to, ec])
    have okc : ∀ x ∈ ts.take dn ++ ts.drop (dn + 1), StpOk x := fun x hx => by
      rcases List.mem_append.mp hx with h | h
      · exact F.ok x (List.mem_of_mem_take h)
      · exact F.ok x (List.mem_of_mem_drop h)
    refine ⟨_, _, (hita.mono Wa.ss).dp, .lst (SqL.of (Wa.ss _ _ ha)) (Stps.dpAll (hcut.mono Wa.ss)), encS_shaped oku, encSs_shaped okc, _, rfl, ?_⟩
    rw [any_encS]
    by_cases hm : u ∈ ts.take dn ++ ts.drop (dn + 1)
    · rw [decide_eq_true hm]
      refine ⟨_, rfl, _, rfl, by show 2 ≤ sizeLine; decide, fun u' nu => ?_⟩
      exact fin Wa oa b xs ts u' nu (s7a _ _ hoa7) hsta F ⟨b0, by omega⟩
    rw [decide_eq_false hm]
    refine ⟨_, rfl, _, rfl, _, rfl, _, rfl, oa, _, rfl, SqL.of (Wa.ss _ _ (s7a _ _ hoa7)), fun m1 hm1 => ?_⟩
    obtain ⟨Wb, sb, hb⟩ := Wa.alloc hm1 (.lst (cutV xs none (some (dn : Int))))
    refine ⟨_, rfl, by show 1 ≤ sizeLine; decide, fun m2 hm2 => ?_⟩
    obtain ⟨Wc, sc, hc⟩ := Wb.alloc hm2 (.lst [.ref v])
    refine ⟨m1, m2, _, _, rfl, rfl, Wc.ss _ _ (sc _ _ hb), Wc.ss _ _ hc, Nat.le_of_lt (small1000 (by show (cutV xs none (some (dn : Int))).length + 1 ≤ 1000; omega)), fun m3 hm3 => ?_⟩
    obtain ⟨Wd', sd, hd⟩ := Wc.alloc hm3 (.lst (cutV xs none (some (dn : Int)) ++ [.ref v]))
    have s7d := s7a.trans (sb.trans (sc.trans sd))
    refine ⟨_, rfl, _, rfl, _, _, rfl, rfl, _, rfl, oa, _, rfl, SqL.of (Wd'.ss _ _ (s7d _ _ hoa7)), fun m4 hm4 => ?_⟩
    obtain ⟨We, se, he⟩ := Wd'.alloc hm4 (.lst (cutV xs (some ((dn : Int) + 1)) none))
    refine ⟨m3, m4, _, _, rfl, rfl, We.ss _ _ (se _ _ hd), We.ss _ _ he, ?_, fun m5 hm5 => ?_⟩
    · rw [List.length_append]
      exact Nat.le_of_lt (small1000 (by show (cutV xs none (some (dn : Int))).length + 1 + _ ≤ 1000; omega))
    obtain ⟨Wf, sf, hf'⟩ := We.alloc hm5 (.lst (cutV xs none (some (dn : Int)) ++ [.ref v] ++ cutV xs (some ((dn : Int) + 1)) none))
    refine ⟨by show 2 ≤ sizeLine; decide, fun u' nu => ?_⟩
    have s7f := s7d.trans (se.trans sf)
    have hstf := hst7.mono s7f
    exact fin Wf m5 b _ (ts.take dn ++ [u] ++ ts.drop (dn + 1)) u' nu hf' ((((hstf.take dn).snoc (hit.mono s7f)).append (hstf.drop (dn + 1))).cast (by rw [cut_to, ec])) (F.laid low ht oku hu hm) ⟨b0, by omega⟩
end
end WW

set_option Elab.async false
set_option linter.all false
set_option maxRecDepth 100000
set_option maxHeartbeats 4000000
namespace WW
open PySem PySem.Spec PyProof.Rows L2
/-- a new hand in the world -/
theorem Wd.made {p : Addr} {S0 H0 S H H' : Hp} {C x dx r : Addr} {b : Int} {xs : List V} {ts : List Stp} (w : Wd p S0 H0 S H) (nx : H x = none) (ndx : H dx = none) (nr : upd (upd H dx (.own x)) x (.ins C dx []) r = none)
    (keep : ∀ c o, c ≠ x → upd (upd H dx (.own x)) x (.ins C dx []) c = some o → H' c = some o) (hx : H' x = some (.ins C dx (hfs b r))) (hr : H' r = some (.tup xs)) (hst : Stps S xs ts) :
    ∃ S', Wd p S0 H0 S' H' ∧ Same S S' ∧ HandAt C S' x b ts := by
  have nrx : r ≠ x := fun z => by rw [z, upd_same] at nr; cases nr
  have nrd : r ≠ dx := fun z => by
    rw [z] at nr nrx
    rw [upd_ne nrx, upd_same] at nr
    cases nr
  have nr0 : H r = none := by
    rw [upd_ne nrx, upd_ne nrd] at nr
    exact nr
  have kp : ∀ c o, H c = some o → H' c = some o := fun c o h => keep c o (ne_of_none h nx) (by rw [upd_ne (ne_of_none h nx), upd_ne (ne_of_none h ndx)]; exact h)
  have sx : S x = none := w.ss.free nx
  have sr : S r = none := w.ss.free nr0
  have s1 : Same S (upd (upd S x (.ins C dx (hfs b r))) r (.tup xs)) := (same_upd sx).trans (same_upd (by rw [upd_ne nrx]; exact sr))
  have w' : Wd p S0 H0 S H' := w.more kp
  have npx : x ≠ p := fun z => w.pl.has (by rw [← z]; exact nx)
  have npr : r ≠ p := fun z => w.pl.has (by rw [← z]; exact nr0)
  have sr2 : upd S x (.ins C dx (hfs b r)) r = none := (upd_ne nrx).trans sr
  refine ⟨upd (upd S x (.ins C dx (hfs b r))) r (.tup xs), ⟨(w'.pl.fix hx sx npx).fix hr sr2 npr, (w'.gr.fix (w.gr.bk nx) sx).fix (w.gr.bk nr0) sr2⟩, s1, dx, r, xs, (upd_ne nrx.symm).trans upd_same, upd_same, hst.mono s1⟩
theorem swap_perm {α : Type} (l : List α) {i j : Nat} (hi : i < l.length) (hj : j < l.length) : ((l.set i l[j]).set j l[i]).Perm l := List.set_set_perm hi hj
theorem Wd.put {p l : Addr} {S0 H0 S H : Hp} {o : HO} (w : Wd p S0 H0 S H) (n0 : H0 l = none) (sl : S l = none) (nlp : l ≠ p) : Wd p S0 H0 S (upd H l o) := ⟨w.pl.put sl nlp, w.gr.put n0⟩
theorem Wd.fix {p l : Addr} {S0 H0 S H : Hp} {o : HO} (w : Wd p S0 H0 S H) (h : H l = some o) (n0 : H0 l = none) (sl : S l = none) (nlp : l ≠ p) : ∃ S', Wd p S0 H0 S' H ∧ Same S S' ∧ S' l = some o :=
  ⟨upd S l o, ⟨w.pl.fix h sl nlp, w.gr.fix n0 sl⟩, same_upd sl, upd_same⟩
theorem Stps.set {H : Hp} : ∀ {xs : List V} {ts : List Stp} {v : V} {t : Stp} (i : Nat), Stps H xs ts → IsStp H v t → Stps H (xs.set i v) (ts.set i t)
  | _, _, _, _, _, .nil, _ => .nil
  | _, _, _, _, 0, .cons _ q, h => .cons h q
  | _, _, _, _, i + 1, .cons r q, h => .cons r (Stps.set i q h)
theorem Stps.rev {H : Hp} : ∀ {xs : List V} {ts : List Stp}, Stps H xs ts → Stps H xs.reverse ts.reverse
  | _, _, .nil => .nil
  | _, _, .cons r q => by
    rw [List.reverse_cons, List.reverse_cons]
    exact (Stps.rev q).snoc r
/-- what Hand(start, row) asks and brings -/
theorem Wd.hand {p : Addr} {S0 H0 S H : Hp} {C a x dx : Addr} {b : Int} {xs : List V} {ts : List Stp} (w : Wd p S0 H0 S H) (hrow : RowAt H a xs) (hst : Stps S xs ts) (F : Fine ts) (hb : 0 ≤ b ∧ b ≤ 99) (nx : H x = none) (ndx : H dx = none) {R : VK} {E : XK}
    (q : ∀ S' H', Wd p S0 H0 S' H' → Same S S' → Same H H' → HandAt C S' x b ts → R .non H') : spHInit C (.ref x :: ([.int b, .ref a] ++ [])) (upd (upd H dx (.own x)) x (.ins C dx [])) R E := by
  have kp : Same H (upd (upd H dx (.own x)) x (.ins C dx [])) := fun c o h => by
    rw [upd_ne (ne_of_none h nx), upd_ne (ne_of_none h ndx)]
    exact h
  refine ⟨x, dx, b, a, xs, ts, rfl, upd_same, hb, hrow.mono kp, hst.mono (w.ss.trans kp), F.good, fun r H' nr keep hx hr => ?_⟩
  obtain ⟨S', W', s', ha⟩ := w.made nx ndx nr keep hx hr hst
  exact q S' H' W' s' (fun c o h => keep c o (ne_of_none h nx) (kp _ _ h)) ha
theorem HandAt.ins {C : Addr} {H : Hp} {h : Addr} {b : Int} {ts : List Stp} (x : HandAt C H h b ts) : ∃ dx fs, H h = some (.ins C dx fs) := by
  obtain ⟨dx, r, xs, h1, _⟩ := x
  exact ⟨dx, _, h1⟩
def eqHand (b b' : Int) (ts ts' : List Stp) : Bool := decide (b = b') && decide (sortT ts = sortT ts')
theorem eqHand_comm (b b' : Int) (ts ts' : List Stp) : eqHand b' b ts' ts = eqHand b b' ts ts' := by
  unfold eqHand
  by_cases h1 : b = b'
  · by_cases h2 : sortT ts = sortT ts'
    · rw [decide_eq_true h1, decide_eq_true h1.symm, decide_eq_true h2, decide_eq_true h2.symm]
    · rw [decide_eq_false h2, decide_eq_false (show ¬ sortT ts' = sortT ts from fun e => h2 e.symm), Bool.and_false, Bool.and_false]
  · rw [decide_eq_false h1, decide_eq_false (fun e => h1 e.symm), Bool.false_and, Bool.false_and]
theorem strs_dp {K : PySem.W.Frag} {H : Hp} : ∀ zs : List Str, DpAll K H (zs.map V.str) (zs.map PyData.str)
  | [] => .nil
  | z :: r => .cons (.str z) (strs_dp r)
theorem strs_lay : ∀ {zs : List Str}, (∀ z ∈ zs, NameOk z) → PyData.canLayAll0 (zs.map PyData.str) = true ∧ PyData.depthAll (zs.map PyData.str) = 0
  | [], _ => by simp [PyData.canLayAll0, PyData.depthAll]
  | z :: r, h => by
    have ih := strs_lay (zs := r) fun y hy => h y (by simp [hy])
    simp [PyData.canLayAll0, PyData.depthAll, PyData.canLay0, PyData.depth, name_sok (h z (by simp)), ih.1, ih.2]
theorem strs_shaped {zs : List Str} (h : ∀ z ∈ zs, NameOk z) : SeqAt.shaped (.list (zs.map PyData.str)) = true := by
  have h1 := strs_lay h
  show (PyData.canLay0 (.list (zs.map PyData.str)) && decide (PyData.depth (.list (zs.map PyData.str)) ≤ 64)) = true
  rw [Bool.and_eq_true]
  exact ⟨by simp only [PyData.canLay0]; exact h1.1, decide_eq_true (by simp only [PyData.depth]; omega)⟩
theorem words_ok {ts : List Stp} (h : ∀ t ∈ ts, StpOk t) : ∀ z ∈ wordsOf ts, NameOk z := fun z hz => by
  have h1 := (List.mergeSort_perm _ _).mem_iff.mp hz
  rw [mem_ddS] at h1
  obtain ⟨t, ht, rfl⟩ := List.mem_map.mp h1
  exact (h t ht).2.1
section
variable {P : Program} {w : World} {K : PySem.W.Frag} {mg : Str → Option Value} {base : Heap} {CH : Addr}
abbrev sLaw : Stmt := topS 26
abbrev nLaw : List Str := ["_law_script", "_law_pool_here", "_law_words", "_law_start", "_law_row", "_law_steps", "_law_turn", "_law_other", "_law_one", "_law_two", "_law_held", "_law_hand_here", "_law_k", "_law_begin", "_law_changed_here", "_law_second", "_law_due"]
theorem scLaw : FnScope nLaw ["_law_script"] (defScope sLaw) := ⟨rfl, rfl, rfl, by decide +kernel, rfl, by decide +kernel, by decide +kernel⟩
def spLaw (K : PySem.W.Frag) : Sp := fun vs H Q _ => ∃ (a : Addr) (ns : List Int), vs = [.ref a] ∧ SqL K H a (ns.map V.int) ∧ ns.length ≤ 63 ∧ ∀ H', Q (.bl true) H'
theorem ok_law {f fP fD fN fL fC fI fB fS fW fE pB pS pW : Addr} {fd fdP fdD fdN fdL fdC fdI fdB fdS fdW fdE : FuncData} (F : Fun K "law" "law" sLaw f fd) (T : Bl mg) (HC : HandC K mg CH)
    (DLpool : Df K mg "_law_pool" sLpool ["_law_script"] fP fdP) (GLpool : FnOk P w K mg base CX0 1 fP fdP ["_law_script"] (spPool K))
    (DLdraw : Df K mg "_law_draw" sLdraw ["_law_pool_here", "_law_many"] fD fdD) (GLdraw : FnOk P w K mg base CX0 1 fD fdD ["_law_pool_here", "_law_many"] spDraw)
    (DLnames : Df K mg "_law_names" sLnames ["_law_pool_here", "_law_many"] fN fdN) (GLnames : FnOk P w K mg base CX0 3 fN fdN ["_law_pool_here", "_law_many"] spNames)
    (DLhand : Df K mg "_law_hand" sLhand ["_law_pool_here", "_law_words", "_law_most"] fL fdL) (GLhand : FnOk P w K mg base CX0 3 fL fdL ["_law_pool_here", "_law_words", "_law_most"] spHandL)
    (DLchanged : Df K mg "_law_changed" sLchanged ["_law_pool_here", "_law_start", "_law_steps"] fC fdC) (GLchanged : FnOk P w K mg base CX0 3 fC fdC ["_law_pool_here", "_law_start", "_law_steps"] spChanged)
    (MHand : Mk K CH fI) (GIHand : FnOk P w K mg base CX0 6 fI fdI ["self", "start", "steps"] (spHInit CH)) (bIHand : Binds K fdI ["self", "start", "steps"] [])
    (pHB : PropOf K CH "start" pB fB) (GHB : FnOk P w K mg base CX0 1 fB fdB ["self"] (spHStart CH)) (bHB : Binds K fdB ["self"] [])
    (pHS : PropOf K CH "steps" pS fS) (GHS : FnOk P w K mg base CX0 1 fS fdS ["self"] (spHSteps CH)) (bHS : Binds K fdS ["self"] [])
    (pHW : PropOf K CH "words" pW fW) (GHW : FnOk P w K mg base CX0 1 fW fdW ["self"] (spHWords CH)) (bHW : Binds K fdW ["self"] [])
    (CE : EqC K CH fE) (GEq : FnOk P w K mg base CX0 1 fE fdE ["self", "other"] (spHEq CH)) (bEq : Binds K fdE ["self", "other"] []) :
    FnOk P w K mg base CX0 8 f fd ["_law_script"] (spLaw K) := by
  refine F.ok scLaw (fun vs H Q E h => ?_) (fun cdv A outer s H vs Q E hr h => ?_)
  · obtain ⟨a, ns, rfl, _⟩ := h
    rfl
  · obtain ⟨a, ns, rfl, hS, hlen, q⟩ := h
    refine ⟨_, (pss_cons (ps_set (i := 1) scLaw.nd rfl (Or.inl rfl) (pe_df DLpool GLpool (hr.mono (by decide)) (pa_cons (pv 0) pa_nil)))
      (pss_cons (ps_set (i := 2) scLaw.nd rfl (Or.inl rfl) (pe_df DLnames GLnames (hr.mono (by decide)) (pa_cons (pv 1) (pa_cons (pe_op op_add pe_int (pe_df DLdraw GLdraw (hr.mono (by decide)) (pa_cons (pv 1) (pa_cons pe_int pa_nil)))) pa_nil))))
      (pss_cons (ps_asg (pe_df DLhand GLhand (hr.mono (by decide)) (pa_cons (pv 1) (pa_cons (pv 2) (pa_cons (pe_op op_add pe_int (pe_df DLdraw GLdraw (hr.mono (by decide)) (pa_cons (pv 1) (pa_cons pe_int pa_nil)))) pa_nil)))) (pg_tup rfl (pgs_cons (pg_name (i := 3) scLaw.nd rfl (Or.inl rfl)) (pgs_cons (pg_name (i := 4) scLaw.nd rfl (Or.inl rfl)) pgs_nil))))
      (pss_cons (ps_set (i := 5) scLaw.nd rfl (Or.inl rfl) (pe_callTy call_list_of (by rfl) T.list (by decide +kernel) (pa_cons (pv 4) pa_nil)))
      (pss_cons (ps_set (i := 6) scLaw.nd rfl (Or.inl rfl) (pe_df DLdraw GLdraw (hr.mono (by decide)) (pa_cons (pv 1) (pa_cons (pe_callB call_len (by rfl) T.len (by decide +kernel) (pa_cons (pv 5) pa_nil)) pa_nil))))
      (pss_cons (ps_set (i := 7) scLaw.nd rfl (Or.inl rfl) (pe_op op_cat (pe_slice sl_list (pv 5) (po_some (pv 6)) po_none) (pe_slice sl_list (pv 5) po_none (po_some (pv 6)))))
      (pss_cons (ps_set (i := 8) scLaw.nd rfl (Or.inl rfl) (pe_df DLdraw GLdraw (hr.mono (by decide)) (pa_cons (pv 1) (pa_cons (pe_callB call_len (by rfl) T.len (by decide +kernel) (pa_cons (pv 7) pa_nil)) pa_nil))))
      (pss_cons (ps_set (i := 9) scLaw.nd rfl (Or.inl rfl) (pe_df DLdraw GLdraw (hr.mono (by decide)) (pa_cons (pv 1) (pa_cons (pe_callB call_len (by rfl) T.len (by decide +kernel) (pa_cons (pv 7) pa_nil)) pa_nil))))
      (pss_cons (ps_set (i := 10) scLaw.nd rfl (Or.inl rfl) (pe_ix ix_list (pv 7) (pv 8) (fun _ _ => rfl)))
      (pss_cons (ps_asg (pe_ix ix_list (pv 7) (pv 9) (fun _ _ => rfl)) (pg_sub (pv 7) (pv 8) set_list))
      (pss_cons (ps_asg (pv 10) (pg_sub (pv 7) (pv 9) set_list))
      (pss_cons (ps_set (i := 11) scLaw.nd rfl (Or.inl rfl) (pe_make MHand GIHand (hr.mono (by decide)) (by rfl) HC.mgC bIHand .nil pass0 (pa_cons (pv 3) (pa_cons (pv 5) pa_nil))))
      (pss_cons (ps_if (PW.pt (pw_or (pt_not (pt_cmpR (op_eqO CE GEq bEq (hr.mono (by decide))) (pv 11) (pe_make MHand GIHand (hr.mono (by decide)) (by rfl) HC.mgC bIHand .nil pass0 (pa_cons (pv 3) (pa_cons (pe_callTy call_tuple_of (by rfl) T.tuple (by decide +kernel) (pa_cons (pv 7) pa_nil)) pa_nil))) (nomark _))) (pw_or1 (pt_not (pt_cmpR (op_eqO CE GEq bEq (hr.mono (by decide))) (pe_make MHand GIHand (hr.mono (by decide)) (by rfl) HC.mgC bIHand .nil pass0 (pa_cons (pv 3) (pa_cons (pe_revL (pv 7)) pa_nil))) (pv 11) (nomark _)))))) (pss_one (ps_ret pe_bl)) pss_nil)
      (pss_cons (ps_if (PW.pt (pw_or (pt_cmpR (op_neD hr.units) (pe_prop (pv 11) HC.cl pHW GHW (hr.mono (by decide)) bHW .nil pass0 rfl) (pe_prop (pe_make MHand GIHand (hr.mono (by decide)) (by rfl) HC.mgC bIHand .nil pass0 (pa_cons (pv 3) (pa_cons (pv 7) pa_nil))) HC.cl pHW GHW (hr.mono (by decide)) bHW .nil pass0 rfl) (nomark _)) (pw_or1 (pt_cmpR (op_neD hr.units) (pe_prop (pe_make MHand GIHand (hr.mono (by decide)) (by rfl) HC.mgC bIHand .nil pass0 (pa_cons (pv 3) (pa_cons (pv 7) pa_nil))) HC.cl pHS GHS (hr.mono (by decide)) bHS .nil pass0 rfl) (pe_callTy call_tuple_of (by rfl) T.tuple (by decide +kernel) (pa_cons (pv 7) pa_nil)) (nomark _))))) (pss_one (ps_ret pe_bl)) pss_nil)
      (pss_cons (ps_for PassesOwn.never rfl (pi_range1 (by rfl) T.range (pa_cons pe_int pa_nil)) (pg_name (i := 12) scLaw.nd rfl (Or.inl rfl)) (pss_cons (ps_asg (pe_df DLchanged GLchanged (hr.mono (by decide)) (pa_cons (pv 1) (pa_cons (pv 3) (pa_cons (pv 7) pa_nil)))) (pg_tup rfl (pgs_cons (pg_name (i := 13) scLaw.nd rfl (Or.inl rfl)) (pgs_cons (pg_name (i := 14) scLaw.nd rfl (Or.inl rfl)) pgs_nil))))
      (pss_cons (ps_set (i := 15) scLaw.nd rfl (Or.inl rfl) (pe_make MHand GIHand (hr.mono (by decide)) (by rfl) HC.mgC bIHand .nil pass0 (pa_cons (pv 13) (pa_cons (pv 14) pa_nil))))
      (C8.pss_cut (ps_set (i := 16) scLaw.nd rfl (Or.inl rfl) (pe_and (pe_cmpR op_eq (pv 13) (pv 3) (nomark _)) (pe_one (pe_cmpR (op_eqD hr.units) (pe_callB (cr_sortedD (hu70 hr)) (by rfl) T.sorted (by decide +kernel) (pa_cons (pv 14) pa_nil)) (pe_callB (cr_sortedD (hu70 hr)) (by rfl) T.sorted (by decide +kernel) (pa_cons (pv 5) pa_nil)) (nomark _)))))
      (pss_one (ps_if (PW.pt (pw_or (pt_cmpR op_ne (pe_cmpR (op_eqO CE GEq bEq (hr.mono (by decide))) (pv 11) (pv 15) (nomark _)) (pv 16) (nomark _)) (pw_or (pt_cmpR op_ne (pe_cmpR (op_eqO CE GEq bEq (hr.mono (by decide))) (pv 15) (pv 11) (nomark _)) (pv 16) (nomark _)) (pw_or1 (pt_cmpR op_eq (pe_cmpR (op_neO CE GEq bEq (hr.mono (by decide))) (pv 11) (pv 15) (nomark _)) (pv 16) (nomark _)))))) (pss_one (ps_ret pe_bl)) pss_nil))))))
      (pss_one (ps_ret (pe_and (pe_cmpR (op_eqO CE GEq bEq (hr.mono (by decide))) (pv 11) (pv 11) (nomark _)) (pe_one (pe_cmpR op_eq (pe_prop (pv 11) HC.cl pHB GHB (hr.mono (by decide)) bHB .nil pass0 rfl) (pv 3) (nomark _))))))))))))))))))))), ?_⟩
    refine ⟨_, rfl, a, ns, rfl, hS, hlen, fun p S1 H1 P1 sHS => ?_⟩
    have W1 : Wd p S1 H1 S1 H1 := ⟨P1, Gr.refl⟩
    refine ⟨_, rfl, _, rfl, p, S1, 4, rfl, by decide, by decide, P1, fun d S2 H2 P2 g2 d0 d1 => ⟨_, _, rfl, rfl, p, 1 + d, S2, rfl, P2, by omega, by omega, fun wa zs S3 H3 P3 g3 hwa lz hz nd => ?_⟩⟩
    obtain ⟨W2, s2⟩ := W1.then_ P2 g2
    obtain ⟨W3, s3⟩ := W2.then_ P3 g3
    refine ⟨_, rfl, _, rfl, _, rfl, p, S3, 4, rfl, by decide, by decide, P3, fun d2 S4 H4 P4 g4 d20 d21 => ⟨_, _, rfl, rfl, p, wa, 1 + d2, S4, zs, rfl, P4, g4.st _ _ hwa, by omega, by omega, hz, by omega, by omega, fun t r b xs ts S5 H5 P5 g5 ht hr' hst Fi low hb hl10 => ?_⟩⟩
    obtain ⟨W4, s4⟩ := W3.then_ P4 g4
    obtain ⟨W5, s5⟩ := W4.then_ P5 g5
    refine ⟨t, _, rfl, SqT.of (W5.ss _ _ ht), rfl, _, _, rfl, _, _, rfl, rfl, ?_⟩
    have lxs : xs.length = ts.length := Paired.length hst
    have lt1 := Fi.l1
    -- steps = list(row)
    refine ⟨_, rfl, r, _, rfl, .inr (SqT.of (W5.ss _ _ hr')), fun l5 hl5 => ?_⟩
    obtain ⟨W6, s6, h6⟩ := W5.alloc hl5 (.lst xs)
    have hst6 := hst.mono s6
    refine ⟨_, rfl, _, rfl, _, _, rfl, .inl ⟨_, SqL.of (W6.ss _ _ h6), rfl⟩, p, _, _, rfl, by omega, by omega, W6.pl, fun tu S7 H7 P7 g7 tu0 tu1 => ?_⟩
    obtain ⟨W7, s7⟩ := W6.then_ P7 g7
    have h7 := s7 _ _ h6
    have hst7 := hst6.mono s7
    obtain ⟨tn, rfl⟩ : ∃ tn : Nat, tu = (tn : Int) := ⟨tu.toNat, by omega⟩
    -- other = steps[turn:] + steps[:turn]
    refine ⟨_, rfl, _, rfl, _, rfl, l5, _, rfl, SqL.of (W7.ss _ _ h7), fun la hla => ?_⟩
    obtain ⟨W8, s8, h8⟩ := W7.alloc hla (.lst (cutV xs (some (tn : Int)) none))
    refine ⟨_, rfl, _, rfl, _, rfl, l5, _, rfl, SqL.of (W8.ss _ _ (s8 _ _ h7)), fun lb hlb => ?_⟩
    obtain ⟨W9, s9, h9⟩ := W8.alloc hlb (.lst (cutV xs none (some (tn : Int))))
    have lsum : (cutV xs (some (tn : Int)) none).length + (cutV xs none (some (tn : Int))).length = xs.length := by
      rw [cut_to, cut_from, List.length_take, List.length_drop]
      omega
    refine ⟨la, lb, _, _, rfl, rfl, W9.ss _ _ (s9 _ _ h8), W9.ss _ _ h9, Nat.le_of_lt (small1000 (by omega)), fun l hl => ?_⟩
    have nlp : l ≠ p := fun z => W9.pl.has (by rw [← z]; exact hl)
    have n0 : H1 l = none := W9.gr.bk hl
    have sl9 := W9.ss.free hl
    have hst9 := hst7.mono (s8.trans s9)
    obtain ⟨ys, eys⟩ : ∃ ys, cutV xs (some (tn : Int)) none ++ cutV xs none (some (tn : Int)) = ys := ⟨_, rfl⟩
    have hys : Stps _ ys (ts.drop tn ++ ts.take tn) := ((hst9.drop tn).append (hst9.take tn)).cast (by rw [← eys, cut_to, cut_from])
    have lys : ys.length = ts.length := by rw [← eys, List.length_append, lsum, lxs]
    rw [eys]
    have h75 := s9 _ _ (s8 _ _ h7)
    have Wx := W9.put (o := .lst ys) n0 sl9 nlp
    have hlx : upd _ l (.lst ys) l = some (.lst ys) := upd_same (H := upd (upd H7 la (.lst (cutV xs (some (tn : Int)) none))) lb (.lst (cutV xs none (some (tn : Int)))))
    generalize upd (upd S7 la (.lst (cutV xs (some (tn : Int)) none))) lb (.lst (cutV xs none (some (tn : Int)))) = Sx at Wx hys h75 sl9 hst9
    generalize upd (upd (upd H7 la (.lst (cutV xs (some (tn : Int)) none))) lb (.lst (cutV xs none (some (tn : Int))))) l (.lst ys) = Hx at Wx hlx ⊢
    obtain ⟨us, eus⟩ : ∃ us, ts.drop tn ++ ts.take tn = us := ⟨_, rfl⟩
    have pus : us.Perm ts := by
      rw [← eus]
      exact List.perm_append_comm.trans (by rw [List.take_append_drop])
    rw [eus] at hys
    -- one, two
    refine ⟨_, rfl, _, rfl, _, _, rfl, .inl ⟨_, SqL.of hlx, rfl⟩, p, _, _, rfl, by omega, by omega, Wx.pl, fun on Sy Hy Py gy on0 on1 => ?_⟩
    obtain ⟨Wy, sy⟩ := Wx.then_ Py gy
    obtain ⟨sly, hly⟩ := gy.loc nlp sl9 hlx
    refine ⟨_, rfl, _, rfl, _, _, rfl, .inl ⟨_, SqL.of hly, rfl⟩, p, _, _, rfl, by omega, by omega, Wy.pl, fun tw Sz Hz Pz gz tw0 tw1 => ?_⟩
    obtain ⟨Wz, sz⟩ := Wy.then_ Pz gz
    obtain ⟨slz, hlz⟩ := gz.loc nlp sly hly
    obtain ⟨i, rfl⟩ : ∃ i : Nat, on = (i : Int) := ⟨on.toNat, by omega⟩
    obtain ⟨j, rfl⟩ : ∃ j : Nat, tw = (j : Int) := ⟨tw.toNat, by omega⟩
    have hi : i < ys.length := by omega
    have hj : j < ys.length := by omega
    have hyz := hys.mono (sy.trans sz)
    have h5z := (sy.trans sz) _ _ h75
    -- held, the exchange
    refine ⟨_, rfl, _, rfl, l, ys, _, _, rfl, rfl, SqL.of hlz, atI_nat (List.getElem?_eq_getElem hi), ?_⟩
    refine ⟨_, rfl, _, rfl, l, ys, _, _, rfl, rfl, SqL.of hlz, atI_nat (List.getElem?_eq_getElem hj), _, rfl, _, rfl, l, ys, _, i, rfl, rfl, hlz, ixN_at i rfl hi, ?_⟩
    refine ⟨_, rfl, _, rfl, _, rfl, l, _, _, j, rfl, rfl, upd_same, ixN_at j rfl (by rw [List.length_set]; exact hj), ?_⟩
    have lus : us.length = ts.length := pus.length_eq
    obtain ⟨t1, et1, ht1⟩ := paired_get hyz (List.getElem?_eq_getElem hi)
    obtain ⟨t2, et2, ht2⟩ := paired_get hyz (List.getElem?_eq_getElem hj)
    have hzs : Stps Sz ((ys.set i ys[j]).set j ys[i]) ((us.set i t2).set j t1) := (hyz.set i ht2).set j ht1
    have pvs : ((us.set i t2).set j t1).Perm ts := by
      obtain ⟨_, e1⟩ := List.getElem?_eq_some_iff.mp et1
      obtain ⟨_, e2⟩ := List.getElem?_eq_some_iff.mp et2
      rw [← e1, ← e2]
      exact (swap_perm us (by omega) (by omega)).trans pus
    have Wa := (Wz.put (o := .lst (ys.set i ys[j])) n0 slz nlp).put (o := .lst ((ys.set i ys[j]).set j ys[i])) n0 slz nlp
    have hla2 : upd (upd Hz l (.lst (ys.set i ys[j]))) l (.lst ((ys.set i ys[j]).set j ys[i])) l = some (.lst ((ys.set i ys[j]).set j ys[i])) := upd_same
    generalize upd (upd Hz l (.lst (ys.set i ys[j]))) l (.lst ((ys.set i ys[j]).set j ys[i])) = Ha at Wa hla2 ⊢
    generalize (ys.set i ys[j]).set j ys[i] = vs at hzs hla2
    generalize (us.set i t2).set j t1 = uv at hzs pvs
    obtain ⟨Sb, Wb, sb, hb5⟩ := Wa.fix hla2 n0 slz nlp
    have hvs := hzs.mono sb
    have h5b := sb _ _ h5z
    have hsto : Stps Sb xs ts := hst9.mono ((sy.trans sz).trans sb)
    have Fu : Fine uv := Fi.perm pvs
    have hb99 : 0 ≤ b ∧ b ≤ 99 := ⟨hb.1, by omega⟩
    have luv : uv.length = ts.length := pvs.length_eq
    have esort : sortT ts = sortT uv := sortT_perm pvs.symm
    -- hand = Hand(start, steps)
    refine ⟨_, rfl, _, rfl, fun hh dx' nx' ndx' _ => Wb.hand (C := CH) (a := l5) (.inl (Wb.ss _ _ h5b)) hsto Fi hb99 nx' ndx' (fun Sc Hc Wc sc _ hA => ⟨rfl, ?_⟩)⟩
    have hlc := sc _ _ hb5
    have h5c := sc _ _ h5b
    have hvc := hvs.mono sc
    have hsc := hsto.mono sc
    obtain ⟨dxA, fsA, iA⟩ := hA.ins
    -- not hand == Hand(start, tuple(other)) or not Hand(start, other[::-1]) == hand
    refine ⟨_, rfl, _, rfl, _, rfl, l, _, rfl, .inl ⟨SqL.of (Wc.ss _ _ hlc), fun r1 hr1 => ?_⟩⟩
    obtain ⟨Wd1, sd1, hd1⟩ := Wc.alloc hr1 (.tup vs)
    refine fun h2 dx' nx' ndx' _ => Wd1.hand (C := CH) (.inr (Wd1.ss _ _ hd1)) (hvc.mono sd1) Fu hb99 nx' ndx' (fun Sd Hd Wd2 sd2 _ hB => ⟨rfl, ?_⟩)
    have sd := sd1.trans sd2
    obtain ⟨dxB, fsB, iB⟩ := hB.ins
    refine ⟨hh, h2, _, _, _, _, rfl, rfl, Wd2.ss _ _ (sd _ _ iA), Wd2.ss _ _ iB, hh, h2, b, b, ts, uv, rfl, (hA.mono sd).mono Wd2.ss, hB.mono Wd2.ss, Fi.ok, Fu.ok, fun He se => ⟨_, rfl, ?_⟩⟩
    rw [decide_eq_true (rfl : b = b), decide_eq_true esort]
    have We := Wd2.more se
    refine ⟨_, rfl, _, rfl, l, _, rfl, SqL.of (We.ss _ _ (sd _ _ hlc)), fun r2 hr2 => ?_⟩
    obtain ⟨We1, se1, he1⟩ := We.alloc hr2 (.lst vs.reverse)
    refine fun h3 dx' nx' ndx' _ => We1.hand (C := CH) (.inl (We1.ss _ _ he1)) ((hvc.mono (sd.trans se1)).rev) (Fu.perm (List.reverse_perm uv)) hb99 nx' ndx' (fun Sf Hf Wf sf2 _ hC => ⟨rfl, ?_⟩)
    have sf := sd.trans (se1.trans sf2)
    obtain ⟨dxC, fsC, iC⟩ := hC.ins
    refine ⟨_, rfl, h3, hh, _, _, _, _, rfl, rfl, Wf.ss _ _ iC, Wf.ss _ _ (sf _ _ iA), h3, hh, b, b, uv.reverse, ts, rfl, hC.mono Wf.ss, (hA.mono sf).mono Wf.ss, (Fu.perm (List.reverse_perm uv)).ok, Fi.ok, fun Hg sg => ⟨_, rfl, ?_⟩⟩
    rw [decide_eq_true (rfl : b = b), decide_eq_true (show sortT uv.reverse = sortT ts from sortT_perm ((List.reverse_perm uv).trans pvs))]
    have Wg := Wf.more sg
    -- hand.words != Hand(start, other).words or Hand(start, other).steps != tuple(other)
    refine ⟨_, rfl, hh, _, _, rfl, Wg.ss _ _ (sf _ _ iA), hh, b, ts, rfl, (hA.mono sf).mono Wg.ss, by omega, fun p1 Hi np1 si hp1 => ?_⟩
    have Wi := Wg.more si
    refine ⟨_, rfl, _, rfl, fun h4 dx' nx' ndx' _ => Wi.hand (C := CH) (a := l) (.inl (Wi.ss _ _ (sf _ _ hlc))) (hvc.mono sf) Fu hb99 nx' ndx' (fun Sj Hj Wj sj kj hD => ⟨rfl, ?_⟩)⟩
    obtain ⟨dxD, fsD, iD⟩ := hD.ins
    refine ⟨h4, _, _, rfl, Wj.ss _ _ iD, h4, b, uv, rfl, hD.mono Wj.ss, by omega, fun p2 Hk np2 sk hp2 => ?_⟩
    have Wk := Wj.more sk
    refine ⟨_, _, .lst (SqL.of (sk _ _ (kj _ _ hp1))) (strs_dp _), .lst (SqL.of hp2) (strs_dp _), strs_shaped (words_ok Fi.ok), strs_shaped (words_ok Fu.ok), _, rfl, ?_⟩
    rw [words_perm pvs.symm, SeqAt.eqv_refl _ (SeqAt.canLay_of_shaped (strs_shaped (words_ok Fu.ok)))]
    refine ⟨_, rfl, _, rfl, fun h5 dx' nx' ndx' _ => Wk.hand (C := CH) (a := l) (.inl (Wk.ss _ _ ((sf.trans sj) _ _ hlc))) (hvc.mono (sf.trans sj)) Fu hb99 nx' ndx' (fun Sl Hl Wl sl' _ hE => ⟨rfl, ?_⟩)⟩
    have sL := sf.trans (sj.trans sl')
    obtain ⟨dxE, fsE, iE⟩ := hE.ins
    refine ⟨h5, _, _, rfl, Wl.ss _ _ iE, h5, b, uv, rfl, hE.mono Wl.ss, fun r5 xs5 hr5 hs5 => ?_⟩
    refine ⟨_, rfl, l, _, rfl, .inl ⟨SqL.of (Wl.ss _ _ (sL _ _ hlc)), fun r6 hr6 => ?_⟩⟩
    obtain ⟨Wm, sm, hm⟩ := Wl.alloc hr6 (.tup vs)
    refine ⟨_, _, .tup (SqT.of (same_upd hr6 _ _ hr5)) (Stps.dpAll (hs5.mono (same_upd hr6))), .tup (SqT.of upd_same) (Stps.dpAll (((hvc.mono sL).mono Wl.ss).mono (same_upd hr6))), encTs_shaped Fu.ok, encTs_shaped Fu.ok, _, rfl, ?_⟩
    rw [SeqAt.eqv_refl _ (SeqAt.canLay_of_shaped (encTs_shaped Fu.ok))]
    have sM := sL.trans sm
    generalize upd Sl r6 (.tup vs) = Sm at Wm sM
    generalize upd Hl r6 (.tup vs) = Hm at Wm ⊢
    have luw : Low uv := fun t ht => low t (pvs.mem_iff.mp ht)
    obtain ⟨ps, exs, ets, hps⟩ := of_stps hsc
    -- four changes
    refine ⟨4, rfl, by decide, by decide, for_range (lo := 0) (n := 4) (fun _ σ H' => ∃ (v12 v13 v14 v15 v16 : Option V) (S' : Hp), σ = [some (.ref a), some (.ref p), some (.ref wa), some (.int b), some (.ref r), some (.ref l5), some (.int (tn : Int)), some (.ref l), some (.int (i : Int)), some (.int (j : Int)), some ys[i], some (.ref hh), v12, v13, v14, v15, v16] ∧ Wd p S1 H1 S' H' ∧ Same Sc S') ?_ ?_ ?_⟩
    · exact ⟨none, none, none, none, none, Sm, rfl, Wm, sM⟩
    · rintro k σ Hn hk ⟨v12, v13, v14, v15, v16, Sn, rfl, Wn, sn⟩
      refine ⟨_, rfl, _, rfl, _, rfl, p, l, b, Sn, vs, uv, rfl, Wn.pl, sn _ _ hlc, hvc.mono sn, Fu, luw, by omega, hb, fun t' r' b' xs' ts' So Ho Po go ht' hr'' hst' F' hb' => ?_⟩
      obtain ⟨Wo, so⟩ := Wn.then_ Po go
      refine ⟨t', _, rfl, SqT.of (Wo.ss _ _ ht'), rfl, _, _, rfl, _, _, rfl, rfl, ?_⟩
      refine ⟨_, rfl, _, rfl, fun hX dx' nx' ndx' _ => Wo.hand (C := CH) (a := r') (.inl (Wo.ss _ _ hr'')) hst' F' hb' nx' ndx' (fun Sp Hp' Wp sp _ hX' => ⟨rfl, ?_⟩)⟩
      have sp2 := sn.trans (so.trans sp)
      obtain ⟨dxX, fsX, iX⟩ := hX'.ins
      have hA' := hA.mono sp2
      have esw : eqHand b' b ts' ts = eqHand b b' ts ts' := eqHand_comm b b' ts ts'
      -- due
      refine ⟨fun σ H' => σ = [some (.ref a), some (.ref p), some (.ref wa), some (.int b), some (.ref r), some (.ref l5), some (.int (tn : Int)), some (.ref l), some (.int (i : Int)), some (.int (j : Int)), some ys[i], some (.ref hh), some (.int (0 + (k : Int))), some (.int b'), some (.ref r'), some (.ref hX), some (.bl (eqHand b b' ts ts'))] ∧ Wd p S1 H1 Sp H', ?_, ?_⟩
      · refine ⟨_, rfl, _, rfl, rfl, _, rfl, ?_⟩
        by_cases ebb : b' = b
        · subst ebb
          rw [decide_eq_true (rfl : V.int b' = V.int b')]
          obtain ⟨qs, exs', ets', hqs⟩ := of_stps (hst'.mono sp)
          have hps' : ∀ x ∈ ps, IsStp Sp x.1 x.2 := fun x hx => (hps x hx).mono sp2
          have dq : ∀ {Hq : Hp} (rs : List (V × Stp)), Same Sp Hq → (∀ x ∈ rs, IsStp Sp x.1 x.2) → (∀ x ∈ encP rs, Dp K Hq x.1 x.2) ∧ ∀ x ∈ encP rs, x.2.depth ≤ 64 := fun rs sq hrs => ⟨fun x hx => by
            obtain ⟨z, hz, rfl⟩ := List.mem_map.mp hx
            exact ((hrs z hz).mono sq).dp, fun x hx => by
            obtain ⟨z, hz, rfl⟩ := List.mem_map.mp hx
            show (encS z.2).depth ≤ 64
            rw [encS_depth]
            decide⟩
          refine ⟨_, rfl, r', encP qs, rfl, .inl (by rw [encP_fst, ← exs']; exact SqL.of (Wp.ss _ _ (sp _ _ hr''))), (dq qs Wp.ss hqs).1, (encP_sorts qs).1, (encP_sorts qs).2, (dq qs Wp.ss hqs).2, fun p1 np1 => ?_⟩
          have su1 : Same Hp' (upd Hp' p1 (.lst (srtD (encP qs)))) := same_upd np1
          refine ⟨_, rfl, l5, encP ps, rfl, .inl (by rw [encP_fst, ← exs]; exact SqL.of (su1 _ _ (Wp.ss _ _ (sp2 _ _ h5c)))), (dq ps (Wp.ss.trans su1) hps').1, (encP_sorts ps).1, (encP_sorts ps).2, (dq ps Wp.ss hps').2, fun p2 np2 => ?_⟩
          have su2 : Same (upd Hp' p1 (.lst (srtD (encP qs)))) (upd (upd Hp' p1 (.lst (srtD (encP qs)))) p2 (.lst (srtD (encP ps)))) := same_upd np2
          have st1 := ((srtD_stps hqs).mono Wp.ss).mono (su1.trans su2)
          have st2 := ((srtD_stps hps').mono Wp.ss).mono (su1.trans su2)
          rw [← ets'] at st1
          rw [← ets] at st2
          refine ⟨_, _, .lst (SqL.of (su2 _ _ upd_same)) (Stps.dpAll st1), .lst (SqL.of upd_same) (Stps.dpAll st2), encSs_shaped (fun t ht => F'.ok t ((List.mergeSort_perm _ _).mem_iff.mp ht)), encSs_shaped (fun t ht => Fi.ok t ((List.mergeSort_perm _ _).mem_iff.mp ht)), ?_⟩
          have ev : PyData.eqv (.list ((sortT ts').map encS)) (.list ((sortT ts).map encS)) = eqHand b' b' ts ts' := by
            simp only [PyData.eqv]
            rw [eqv_stps, ← esw]
            unfold eqHand
            rw [decide_eq_true (rfl : b' = b'), Bool.true_and]
          rw [ev]
          exact ⟨rfl, Wp.more (su1.trans su2)⟩
        · rw [decide_eq_false (fun e => ebb (V.int.inj e))]
          have ef : eqHand b b' ts ts' = false := by
            unfold eqHand
            rw [decide_eq_false (fun e => ebb e.symm), Bool.false_and]
          rw [ef]
          exact ⟨rfl, Wp⟩
      rintro σ Hq ⟨rfl, Wq⟩
      have iXq := Wq.ss _ _ iX
      have iAq := Wq.ss _ _ (sp2 _ _ iA)
      -- (hand == second) != due
      refine ⟨_, rfl, _, rfl, hh, hX, _, _, _, _, rfl, rfl, iAq, iXq, hh, hX, b, b', ts, ts', rfl, hA'.mono Wq.ss, hX'.mono Wq.ss, Fi.ok, F'.ok, fun Hr sr => ⟨_, rfl, rfl, _, rfl, ?_⟩⟩
      have Wr := Wq.more sr
      show if (!decide (V.bl (eqHand b b' ts ts') = V.bl (eqHand b b' ts ts'))) = true then _ else _
      rw [decide_eq_true (rfl : V.bl (eqHand b b' ts ts') = V.bl (eqHand b b' ts ts'))]
      refine ⟨_, rfl, _, rfl, hX, hh, _, _, _, _, rfl, rfl, sr _ _ iXq, sr _ _ iAq, hX, hh, b', b, ts', ts, rfl, hX'.mono Wr.ss, hA'.mono Wr.ss, F'.ok, Fi.ok, fun Hs ss' => ⟨_, rfl, rfl, _, rfl, ?_⟩⟩
      have Ws := Wr.more ss'
      show if (!decide (V.bl (eqHand b' b ts' ts) = V.bl (eqHand b b' ts ts'))) = true then _ else _
      rw [esw, decide_eq_true (rfl : V.bl (eqHand b b' ts ts') = V.bl (eqHand b b' ts ts'))]
      refine ⟨_, rfl, _, rfl, hh, hX, _, _, _, _, rfl, rfl, ss' _ _ (sr _ _ iAq), ss' _ _ (sr _ _ iXq), hh, hX, b, b', ts, ts', rfl, hA'.mono Ws.ss, hX'.mono Ws.ss, Fi.ok, F'.ok, fun Ht st' => ⟨_, rfl, _, rfl, rfl, _, rfl, ?_⟩⟩
      have Wt := Ws.more st'
      show if decide (V.bl (!eqHand b b' ts ts') = V.bl (eqHand b b' ts ts')) = true then _ else _
      rw [decide_eq_false (show ¬ V.bl (!eqHand b b' ts ts') = V.bl (eqHand b b' ts ts') from fun e => by
        have := V.bl.inj e
        cases h : eqHand b b' ts ts' <;> rw [h] at this <;> cases this)]
      exact ⟨_, _, _, _, _, Sp, rfl, Wt, sp2⟩
    · rintro σ Hn ⟨v12, v13, v14, v15, v16, Sn, rfl, Wn, sn⟩
      refine ⟨_, rfl, _, rfl, hh, hh, _, _, _, _, rfl, rfl, Wn.ss _ _ (sn _ _ iA), Wn.ss _ _ (sn _ _ iA), hh, hh, b, b, ts, ts, rfl, (hA.mono sn).mono Wn.ss, (hA.mono sn).mono Wn.ss, Fi.ok, Fi.ok, fun Ho so => ⟨_, rfl, ?_⟩⟩
      rw [decide_eq_true (rfl : b = b), decide_eq_true (rfl : sortT ts = sortT ts)]
      have Wo := Wn.more so
      refine ⟨_, rfl, hh, _, _, rfl, Wo.ss _ _ (sn _ _ iA), hh, b, ts, rfl, (hA.mono sn).mono Wo.ss, _, rfl, rfl, ?_⟩
      rw [decide_eq_true (rfl : V.int b = V.int b)]
      exact q _
end
end WW

set_option Elab.async false
set_option linter.all false
set_option maxRecDepth 100000
set_option pp.maxSteps 150
set_option maxHeartbeats 4000000
namespace WW
open PySem PySem.Spec PyProof.Rows L2
theorem all_mk {l : PySem.W.OpenLaw} {w : World} {K : PySem.W.Frag} {h : Heap} {mg : Str → Option Value} {fa : Addr} (X : K.In h) (G : h.Ns mainGlobals mg) (hfa : mg "law" = some (.ref fa))
    {tsm : Tok}
    {tms : Tok}
    {tmo : Tok}
    {odii anii : Option Addr} {slii : Array (Option Value)} {ocii kVii dcii pmii cdii ctii : Value} {fii : Addr}
    {odib anib : Option Addr} {slib : Array (Option Value)} {ocib kVib dcib pmib cdib ctib : Value} {fib : Addr}
    {odis anis : Option Addr} {slis : Array (Option Value)} {ocis kVis dcis pmis cdis ctis : Value} {fis : Addr}
    {odin anin : Option Addr} {slin : Array (Option Value)} {ocin kVin dcin pmin cdin ctin : Value} {fin : Addr}
    {odir anir : Option Addr} {slir : Array (Option Value)} {ocir kVir dcir pmir cdir ctir : Value} {fir : Addr}
    {odip anip : Option Addr} {slip : Array (Option Value)} {ocip kVip dcip pmip cdip ctip : Value} {fip : Addr}
    {odgs angs : Option Addr} {slgs : Array (Option Value)} {ocgs kVgs dcgs pmgs cdgs ctgs : Value} {fgs : Addr}
    {CH : Addr}
    {odHi anHi : Option Addr} {slHi : Array (Option Value)} {ocHi kVHi dcHi pmHi cdHi ctHi : Value} {fHi : Addr}
    {pHb : Addr} {rHb : List Value}
    {odHb anHb : Option Addr} {slHb : Array (Option Value)} {ocHb kVHb dcHb pmHb cdHb ctHb : Value} {fHb : Addr}
    {pHs : Addr} {rHs : List Value}
    {odHs anHs : Option Addr} {slHs : Array (Option Value)} {ocHs kVHs dcHs pmHs cdHs ctHs : Value} {fHs : Addr}
    {pHw : Addr} {rHw : List Value}
    {odHw anHw : Option Addr} {slHw : Array (Option Value)} {ocHw kVHw dcHw pmHw cdHw ctHw : Value} {fHw : Addr}
    {odHe anHe : Option Addr} {slHe : Array (Option Value)} {ocHe kVHe dcHe pmHe cdHe ctHe : Value} {fHe : Addr}
    {odlp anlp : Option Addr} {sllp : Array (Option Value)} {oclp kVlp dclp pmlp cdlp ctlp : Value} {flp : Addr}
    {odld anld : Option Addr} {slld : Array (Option Value)} {ocld kVld dcld pmld cdld ctld : Value} {fld : Addr}
    {odlk anlk : Option Addr} {sllk : Array (Option Value)} {oclk kVlk dclk pmlk cdlk ctlk : Value} {flk : Addr}
    {odln anln : Option Addr} {slln : Array (Option Value)} {ocln kVln dcln pmln cdln ctln : Value} {fln : Addr}
    {odlN anlN : Option Addr} {sllN : Array (Option Value)} {oclN kVlN dclN pmlN cdlN ctlN : Value} {flN : Addr}
    {odlh anlh : Option Addr} {sllh : Array (Option Value)} {oclh kVlh dclh pmlh cdlh ctlh : Value} {flh : Addr}
    {odlc anlc : Option Addr} {sllc : Array (Option Value)} {oclc kVlc dclc pmlc cdlc ctlc : Value} {flc : Addr}
    {odlaw anlaw : Option Addr} {sllaw : Array (Option Value)} {oclaw kVlaw dclaw pmlaw cdlaw ctlaw : Value} {flaw : Addr}
    (zabs : PySem.W.nsIn K mainGlobals "abs" = some none)
    (zint : PySem.W.nsIn K mainGlobals "int" = some none)
    (zlen : PySem.W.nsIn K mainGlobals "len" = some none)
    (zmax : PySem.W.nsIn K mainGlobals "max" = some none)
    (zrange : PySem.W.nsIn K mainGlobals "range" = some none)
    (ztuple : PySem.W.nsIn K mainGlobals "tuple" = some none)
    (zlist : PySem.W.nsIn K mainGlobals "list" = some none)
    (zstr : PySem.W.nsIn K mainGlobals "str" = some none)
    (zbool : PySem.W.nsIn K mainGlobals "bool" = some none)
    (zisinstance : PySem.W.nsIn K mainGlobals "isinstance" = some none)
    (zall : PySem.W.nsIn K mainGlobals "all" = some none)
    (zsorted : PySem.W.nsIn K mainGlobals "sorted" = some none)
    (zenumerate : PySem.W.nsIn K mainGlobals "enumerate" = some none)
    (vsm : PySem.W.nsIn K mainGlobals "SMALL" = some (some (.str smallS tsm)))
    (vms : PySem.W.nsIn K mainGlobals "MOST_STEPS" = some (some (.int 20 tms)))
    (vmo : PySem.W.nsIn K mainGlobals "MOST_FROM_ONE" = some (some (.int 3 tmo)))
    (aii : PySem.W.nsIn K mainGlobals "is_integer" = some (some (.ref fii)))
    (lii : K.lookup fii = some ⟨ocii, odii, .func (PySem.W.fnOf "is_integer" "is_integer" (defArgs sIs_integer) (defBody sIs_integer) (defScope sIs_integer) .none kVii dcii pmii anii cdii ctii), slii⟩)
    (cii : PySem.W.codeIn K cdii "is_integer" = true)
    (kii : PySem.W.keepIn K (.ref fii) = true)
    (aib : PySem.W.nsIn K mainGlobals "is_between" = some (some (.ref fib)))
    (lib : K.lookup fib = some ⟨ocib, odib, .func (PySem.W.fnOf "is_between" "is_between" (defArgs sIs_between) (defBody sIs_between) (defScope sIs_between) .none kVib dcib pmib anib cdib ctib), slib⟩)
    (cib : PySem.W.codeIn K cdib "is_between" = true)
    (kib : PySem.W.keepIn K (.ref fib) = true)
    (ais : PySem.W.nsIn K mainGlobals "is_state" = some (some (.ref fis)))
    (lis : K.lookup fis = some ⟨ocis, odis, .func (PySem.W.fnOf "is_state" "is_state" (defArgs sIs_state) (defBody sIs_state) (defScope sIs_state) .none kVis dcis pmis anis cdis ctis), slis⟩)
    (cis : PySem.W.codeIn K cdis "is_state" = true)
    (kis : PySem.W.keepIn K (.ref fis) = true)
    (ain : PySem.W.nsIn K mainGlobals "is_name" = some (some (.ref fin)))
    (lin : K.lookup fin = some ⟨ocin, odin, .func (PySem.W.fnOf "is_name" "is_name" (defArgs sIs_name) (defBody sIs_name) (defScope sIs_name) .none kVin dcin pmin anin cdin ctin), slin⟩)
    (cin : PySem.W.codeIn K cdin "is_name" = true)
    (kin : PySem.W.keepIn K (.ref fin) = true)
    (air : PySem.W.nsIn K mainGlobals "is_row" = some (some (.ref fir)))
    (lir : K.lookup fir = some ⟨ocir, odir, .func (PySem.W.fnOf "is_row" "is_row" (defArgs sIs_row) (defBody sIs_row) (defScope sIs_row) .none kVir dcir pmir anir cdir ctir), slir⟩)
    (cir : PySem.W.codeIn K cdir "is_row" = true)
    (kir : PySem.W.keepIn K (.ref fir) = true)
    (aip : PySem.W.nsIn K mainGlobals "is_step" = some (some (.ref fip)))
    (lip : K.lookup fip = some ⟨ocip, odip, .func (PySem.W.fnOf "is_step" "is_step" (defArgs sIs_step) (defBody sIs_step) (defScope sIs_step) .none kVip dcip pmip anip cdip ctip), slip⟩)
    (cip : PySem.W.codeIn K cdip "is_step" = true)
    (kip : PySem.W.keepIn K (.ref fip) = true)
    (ags : PySem.W.nsIn K mainGlobals "good_steps" = some (some (.ref fgs)))
    (lgs : K.lookup fgs = some ⟨ocgs, odgs, .func (PySem.W.fnOf "good_steps" "good_steps" (defArgs sGood_steps) (defBody sGood_steps) (defScope sGood_steps) .none kVgs dcgs pmgs angs cdgs ctgs), slgs⟩)
    (cgs : PySem.W.codeIn K cdgs "good_steps" = true)
    (kgs : PySem.W.keepIn K (.ref fgs) = true)
    (aCH : PySem.W.nsIn K mainGlobals "Hand" = some (some (.ref CH)))
    (pgH : PySem.W.plainGet K CH Str.empty = true)
    (hdH : PySem.W.hasDictIn K CH = true)
    (poH : PySem.W.plainOver K CH = true)
    (saH : PySem.W.findIn K (.ref CH) "__setattr__" = some (some (.builtin "object.__setattr__")))
    (nHB : PySem.W.findIn K (.ref CH) "begin" = some none)
    (nHR : PySem.W.findIn K (.ref CH) "row" = some none)
    (mkH : PySem.W.makesIn K CH = true)
    (aiH : PySem.W.findIn K (.ref CH) "__init__" = some (some (.ref fHi)))
    (iiH : PySem.W.isFn K (.ref fHi) = true)
    (kcH : PySem.W.keepIn K (.ref CH) = true)
    (lHi : K.lookup fHi = some ⟨ocHi, odHi, .func (PySem.W.fnOf "__init__" "Hand.__init__" (defArgs sHand_init) (defBody sHand_init) (defScope sHand_init) .none kVHi dcHi pmHi anHi cdHi ctHi), slHi⟩)
    (cHi : PySem.W.codeIn K cdHi "Hand.__init__" = true)
    (kHi : PySem.W.keepIn K (.ref fHi) = true)
    (paHb : PySem.W.findIn K (.ref CH) "start" = some (some (.ref pHb)))
    (pbHb : PySem.W.specialIn K (.ref pHb) "__get__" = some (some (.builtin "property.__get__")))
    (pcHb : PySem.W.takesIn K (.ref pHb) = some true)
    (pdHb : PySem.W.recIn K pHb "property" = some (.ref fHb :: rHb))
    (lHb : K.lookup fHb = some ⟨ocHb, odHb, .func (PySem.W.fnOf "start" "Hand.start" (defArgs sHand_start) (defBody sHand_start) (defScope sHand_start) .none kVHb dcHb pmHb anHb cdHb ctHb), slHb⟩)
    (cHb : PySem.W.codeIn K cdHb "Hand.start" = true)
    (kHb : PySem.W.keepIn K (.ref fHb) = true)
    (paHs : PySem.W.findIn K (.ref CH) "steps" = some (some (.ref pHs)))
    (pbHs : PySem.W.specialIn K (.ref pHs) "__get__" = some (some (.builtin "property.__get__")))
    (pcHs : PySem.W.takesIn K (.ref pHs) = some true)
    (pdHs : PySem.W.recIn K pHs "property" = some (.ref fHs :: rHs))
    (lHs : K.lookup fHs = some ⟨ocHs, odHs, .func (PySem.W.fnOf "steps" "Hand.steps" (defArgs sHand_steps) (defBody sHand_steps) (defScope sHand_steps) .none kVHs dcHs pmHs anHs cdHs ctHs), slHs⟩)
    (cHs : PySem.W.codeIn K cdHs "Hand.steps" = true)
    (kHs : PySem.W.keepIn K (.ref fHs) = true)
    (paHw : PySem.W.findIn K (.ref CH) "words" = some (some (.ref pHw)))
    (pbHw : PySem.W.specialIn K (.ref pHw) "__get__" = some (some (.builtin "property.__get__")))
    (pcHw : PySem.W.takesIn K (.ref pHw) = some true)
    (pdHw : PySem.W.recIn K pHw "property" = some (.ref fHw :: rHw))
    (lHw : K.lookup fHw = some ⟨ocHw, odHw, .func (PySem.W.fnOf "words" "Hand.words" (defArgs sHand_words) (defBody sHand_words) (defScope sHand_words) .none kVHw dcHw pmHw anHw cdHw ctHw), slHw⟩)
    (cHw : PySem.W.codeIn K cdHw "Hand.words" = true)
    (kHw : PySem.W.keepIn K (.ref fHw) = true)
    (eaH : PySem.W.findIn K (.ref CH) "__eq__" = some (some (.ref fHe)))
    (ebH : PySem.W.findIn K (.ref CH) "__ne__" = some (some (.builtin "object.__ne__")))
    (ecH : PySem.W.isFn K (.ref fHe) = true)
    (edH : PySem.W.subIn K (.ref CH) (.type "object") = some true)
    (lHe : K.lookup fHe = some ⟨ocHe, odHe, .func (PySem.W.fnOf "__eq__" "Hand.__eq__" (defArgs sHand_eq) (defBody sHand_eq) (defScope sHand_eq) .none kVHe dcHe pmHe anHe cdHe ctHe), slHe⟩)
    (cHe : PySem.W.codeIn K cdHe "Hand.__eq__" = true)
    (kHe : PySem.W.keepIn K (.ref fHe) = true)
    (jaH : PySem.W.findIn K (.ref CH) "__class__" = some (some (.builtin "object.__class__")))
    (jbH : PySem.W.specialIn K (.builtin "object.__class__") "__get__" = some (some (.builtin "getset_descriptor.__get__")))
    (jcH : PySem.W.takesIn K (.builtin "object.__class__") = some true)
    (jdH : PySem.W.mroIn K CH (.type "object") = some true)
    (alp : PySem.W.nsIn K mainGlobals "_law_pool" = some (some (.ref flp)))
    (llp : K.lookup flp = some ⟨oclp, odlp, .func (PySem.W.fnOf "_law_pool" "_law_pool" (defArgs sLpool) (defBody sLpool) (defScope sLpool) .none kVlp dclp pmlp anlp cdlp ctlp), sllp⟩)
    (clp : PySem.W.codeIn K cdlp "_law_pool" = true)
    (klp : PySem.W.keepIn K (.ref flp) = true)
    (ald : PySem.W.nsIn K mainGlobals "_law_draw" = some (some (.ref fld)))
    (lld : K.lookup fld = some ⟨ocld, odld, .func (PySem.W.fnOf "_law_draw" "_law_draw" (defArgs sLdraw) (defBody sLdraw) (defScope sLdraw) .none kVld dcld pmld anld cdld ctld), slld⟩)
    (cld : PySem.W.codeIn K cdld "_law_draw" = true)
    (kld : PySem.W.keepIn K (.ref fld) = true)
    (alk : PySem.W.nsIn K mainGlobals "_law_pick" = some (some (.ref flk)))
    (llk : K.lookup flk = some ⟨oclk, odlk, .func (PySem.W.fnOf "_law_pick" "_law_pick" (defArgs sLpick) (defBody sLpick) (defScope sLpick) .none kVlk dclk pmlk anlk cdlk ctlk), sllk⟩)
    (clk : PySem.W.codeIn K cdlk "_law_pick" = true)
    (klk : PySem.W.keepIn K (.ref flk) = true)
    (aln : PySem.W.nsIn K mainGlobals "_law_name" = some (some (.ref fln)))
    (lln : K.lookup fln = some ⟨ocln, odln, .func (PySem.W.fnOf "_law_name" "_law_name" (defArgs sLname) (defBody sLname) (defScope sLname) .none kVln dcln pmln anln cdln ctln), slln⟩)
    (cln : PySem.W.codeIn K cdln "_law_name" = true)
    (kln : PySem.W.keepIn K (.ref fln) = true)
    (alN : PySem.W.nsIn K mainGlobals "_law_names" = some (some (.ref flN)))
    (llN : K.lookup flN = some ⟨oclN, odlN, .func (PySem.W.fnOf "_law_names" "_law_names" (defArgs sLnames) (defBody sLnames) (defScope sLnames) .none kVlN dclN pmlN anlN cdlN ctlN), sllN⟩)
    (clN : PySem.W.codeIn K cdlN "_law_names" = true)
    (klN : PySem.W.keepIn K (.ref flN) = true)
    (alh : PySem.W.nsIn K mainGlobals "_law_hand" = some (some (.ref flh)))
    (llh : K.lookup flh = some ⟨oclh, odlh, .func (PySem.W.fnOf "_law_hand" "_law_hand" (defArgs sLhand) (defBody sLhand) (defScope sLhand) .none kVlh dclh pmlh anlh cdlh ctlh), sllh⟩)
    (clh : PySem.W.codeIn K cdlh "_law_hand" = true)
    (klh : PySem.W.keepIn K (.ref flh) = true)
    (alc : PySem.W.nsIn K mainGlobals "_law_changed" = some (some (.ref flc)))
    (llc : K.lookup flc = some ⟨oclc, odlc, .func (PySem.W.fnOf "_law_changed" "_law_changed" (defArgs sLchanged) (defBody sLchanged) (defScope sLchanged) .none kVlc dclc pmlc anlc cdlc ctlc), sllc⟩)
    (clc : PySem.W.codeIn K cdlc "_law_changed" = true)
    (klc : PySem.W.keepIn K (.ref flc) = true)
    (alaw : PySem.W.nsIn K mainGlobals "law" = some (some (.ref flaw)))
    (llaw : K.lookup flaw = some ⟨oclaw, odlaw, .func (PySem.W.fnOf "law" "law" (defArgs sLaw) (defBody sLaw) (defScope sLaw) .none kVlaw dclaw pmlaw anlaw cdlaw ctlaw), sllaw⟩)
    (claw : PySem.W.codeIn K cdlaw "law" = true)
    (klaw : PySem.W.keepIn K (.ref flaw) = true) :
    ∃ fd : FuncData, (∀ (s : Shared) (v : Value), BindsTo s fd ⟨[v], []⟩ [("_law_script", v)]) ∧ ∀ base : Heap, K.In base → base.Ns mainGlobals mg → FnOk l.prog w K mg base CX0 8 fa fd ["_law_script"] (spLaw K) := by
  have e := hfa.symm.trans (PySem.W.mg_of X G alaw)
  cases e
  have T : Bl mg := ⟨PySem.W.mg_none_of X G zabs, PySem.W.mg_none_of X G zint, PySem.W.mg_none_of X G zlen, PySem.W.mg_none_of X G zmax, PySem.W.mg_none_of X G zrange, PySem.W.mg_none_of X G ztuple, PySem.W.mg_none_of X G zlist, PySem.W.mg_none_of X G zstr, PySem.W.mg_none_of X G zbool, PySem.W.mg_none_of X G zisinstance, PySem.W.mg_none_of X G zall, PySem.W.mg_none_of X G zsorted, PySem.W.mg_none_of X G zenumerate⟩
  have Vsm := PySem.W.mg_of X G vsm
  have Vms := PySem.W.mg_of X G vms
  have Vmo := PySem.W.mg_of X G vmo
  have Fii := fun_mk (st := sIs_integer) lii cii kii
  have bii := Fii.binds (ps := ["thing"]) fun _ _ _ _ _ _ us hl => match us, hl with | [_], _ => rfl
  have Dii : Df K mg "is_integer" sIs_integer ["thing"] fii _ := ⟨Fii, PySem.W.mg_of X G aii, bii⟩
  have Fib := fun_mk (st := sIs_between) lib cib kib
  have bib := Fib.binds (ps := ["thing", "low", "high"]) fun _ _ _ _ _ _ us hl => match us, hl with | [_, _, _], _ => rfl
  have Dib : Df K mg "is_between" sIs_between ["thing", "low", "high"] fib _ := ⟨Fib, PySem.W.mg_of X G aib, bib⟩
  have Fis := fun_mk (st := sIs_state) lis cis kis
  have bis := Fis.binds (ps := ["thing"]) fun _ _ _ _ _ _ us hl => match us, hl with | [_], _ => rfl
  have Dis : Df K mg "is_state" sIs_state ["thing"] fis _ := ⟨Fis, PySem.W.mg_of X G ais, bis⟩
  have Fin := fun_mk (st := sIs_name) lin cin kin
  have bin := Fin.binds (ps := ["thing"]) fun _ _ _ _ _ _ us hl => match us, hl with | [_], _ => rfl
  have Din : Df K mg "is_name" sIs_name ["thing"] fin _ := ⟨Fin, PySem.W.mg_of X G ain, bin⟩
  have Fir := fun_mk (st := sIs_row) lir cir kir
  have bir := Fir.binds (ps := ["thing"]) fun _ _ _ _ _ _ us hl => match us, hl with | [_], _ => rfl
  have Dir : Df K mg "is_row" sIs_row ["thing"] fir _ := ⟨Fir, PySem.W.mg_of X G air, bir⟩
  have Fip := fun_mk (st := sIs_step) lip cip kip
  have bip := Fip.binds (ps := ["thing"]) fun _ _ _ _ _ _ us hl => match us, hl with | [_], _ => rfl
  have Dip : Df K mg "is_step" sIs_step ["thing"] fip _ := ⟨Fip, PySem.W.mg_of X G aip, bip⟩
  have Fgs := fun_mk (st := sGood_steps) lgs cgs kgs
  have bgs := Fgs.binds (ps := ["steps"]) fun _ _ _ _ _ _ us hl => match us, hl with | [_], _ => rfl
  have Dgs : Df K mg "good_steps" sGood_steps ["steps"] fgs _ := ⟨Fgs, PySem.W.mg_of X G ags, bgs⟩
  have clH : Cls K CH := ⟨pgH, hdH, poH, saH⟩
  have mCH := PySem.W.mg_of X G aCH
  have MH : Mk K CH fHi := ⟨mkH, aiH, iiH, kcH⟩
  have FHi := fun_mk (st := sHand_init) lHi cHi kHi
  have bHi := FHi.binds (ps := ["self", "start", "steps"]) fun _ _ _ _ _ _ us hl => match us, hl with | [_, _, _], _ => rfl
  have PHb : PropOf K CH "start" pHb fHb := ⟨paHb, pbHb, pcHb, _, pdHb⟩
  have FHb := fun_mk (st := sHand_start) lHb cHb kHb
  have bHb := FHb.binds (ps := ["self"]) fun _ _ _ _ _ _ us hl => match us, hl with | [_], _ => rfl
  have PHs : PropOf K CH "steps" pHs fHs := ⟨paHs, pbHs, pcHs, _, pdHs⟩
  have FHs := fun_mk (st := sHand_steps) lHs cHs kHs
  have bHs := FHs.binds (ps := ["self"]) fun _ _ _ _ _ _ us hl => match us, hl with | [_], _ => rfl
  have PHw : PropOf K CH "words" pHw fHw := ⟨paHw, pbHw, pcHw, _, pdHw⟩
  have FHw := fun_mk (st := sHand_words) lHw cHw kHw
  have bHw := FHw.binds (ps := ["self"]) fun _ _ _ _ _ _ us hl => match us, hl with | [_], _ => rfl
  have EH : EqC K CH fHe := ⟨eaH, ebH, ecH, edH⟩
  have FHe := fun_mk (st := sHand_eq) lHe cHe kHe
  have bHe := FHe.binds (ps := ["self", "other"]) fun _ _ _ _ _ _ us hl => match us, hl with | [_, _], _ => rfl
  have JH : C8.InsC K CH := ⟨clH, jaH, jbH, jcH, jdH, if_pos (beq_self_eq_true _)⟩
  have HC : HandC K mg CH := ⟨clH, nHB, nHR, mCH⟩
  have Flp := fun_mk (st := sLpool) llp clp klp
  have blp := Flp.binds (ps := ["_law_script"]) fun _ _ _ _ _ _ us hl => match us, hl with | [_], _ => rfl
  have Dlp : Df K mg "_law_pool" sLpool ["_law_script"] flp _ := ⟨Flp, PySem.W.mg_of X G alp, blp⟩
  have Fld := fun_mk (st := sLdraw) lld cld kld
  have bld := Fld.binds (ps := ["_law_pool_here", "_law_many"]) fun _ _ _ _ _ _ us hl => match us, hl with | [_, _], _ => rfl
  have Dld : Df K mg "_law_draw" sLdraw ["_law_pool_here", "_law_many"] fld _ := ⟨Fld, PySem.W.mg_of X G ald, bld⟩
  have Flk := fun_mk (st := sLpick) llk clk klk
  have blk := Flk.binds (ps := ["_law_pool_here", "_law_items"]) fun _ _ _ _ _ _ us hl => match us, hl with | [_, _], _ => rfl
  have Dlk : Df K mg "_law_pick" sLpick ["_law_pool_here", "_law_items"] flk _ := ⟨Flk, PySem.W.mg_of X G alk, blk⟩
  have Fln := fun_mk (st := sLname) lln cln kln
  have bln := Fln.binds (ps := ["_law_pool_here", "_law_taken"]) fun _ _ _ _ _ _ us hl => match us, hl with | [_, _], _ => rfl
  have Dln : Df K mg "_law_name" sLname ["_law_pool_here", "_law_taken"] fln _ := ⟨Fln, PySem.W.mg_of X G aln, bln⟩
  have FlN := fun_mk (st := sLnames) llN clN klN
  have blN := FlN.binds (ps := ["_law_pool_here", "_law_many"]) fun _ _ _ _ _ _ us hl => match us, hl with | [_, _], _ => rfl
  have DlN : Df K mg "_law_names" sLnames ["_law_pool_here", "_law_many"] flN _ := ⟨FlN, PySem.W.mg_of X G alN, blN⟩
  have Flh := fun_mk (st := sLhand) llh clh klh
  have blh := Flh.binds (ps := ["_law_pool_here", "_law_words", "_law_most"]) fun _ _ _ _ _ _ us hl => match us, hl with | [_, _, _], _ => rfl
  have Dlh : Df K mg "_law_hand" sLhand ["_law_pool_here", "_law_words", "_law_most"] flh _ := ⟨Flh, PySem.W.mg_of X G alh, blh⟩
  have Flc := fun_mk (st := sLchanged) llc clc klc
  have blc := Flc.binds (ps := ["_law_pool_here", "_law_start", "_law_steps"]) fun _ _ _ _ _ _ us hl => match us, hl with | [_, _, _], _ => rfl
  have Dlc : Df K mg "_law_changed" sLchanged ["_law_pool_here", "_law_start", "_law_steps"] flc _ := ⟨Flc, PySem.W.mg_of X G alc, blc⟩
  have Flaw := fun_mk (st := sLaw) llaw claw klaw
  have blaw := Flaw.binds (ps := ["_law_script"]) fun _ _ _ _ _ _ us hl => match us, hl with | [_], _ => rfl
  have C1 : Cst mg := ⟨_, Vsm⟩
  have C2 : Cst2 mg := ⟨⟨_, Vms⟩, ⟨_, Vmo⟩⟩
  refine ⟨PySem.W.fnOf "law" "law" (defArgs sLaw) (defBody sLaw) (defScope sLaw) .none kVlaw dclaw pmlaw anlaw cdlaw ctlaw, fun s v => .of_eq rfl, fun base _ _ => ?_⟩
  have G1 : FnOk l.prog w K mg base CX0 3 fis _ ["thing"] (spIsState K) := ok_is_state Dis Dib Dii T
  have G2 : FnOk l.prog w K mg base CX0 1 fin _ ["thing"] (spIsName K) := ok_is_name Din T C1
  have G3 : FnOk l.prog w K mg base CX0 1 fir _ ["thing"] (spIsRow K) := ok_is_row Dir T
  have G4 : FnOk l.prog w K mg base CX0 4 fip _ ["thing"] (spIsStep K) := ok_is_step Dip Dis G1 Din G2 T
  have G5 : FnOk l.prog w K mg base CX0 5 fgs _ ["steps"] spGood := ok_good (fC := fgs) (fdC := PySem.W.fnOf "good_steps" "good_steps" (defArgs sGood_steps) (defBody sGood_steps) (defScope sGood_steps) .none kVgs dcgs pmgs angs cdgs ctgs) Dgs Dir G3 Dip G4 T C2
  have G6 : FnOk l.prog w K mg base CX0 6 fHi _ ["self", "start", "steps"] (spHInit CH) := ok_hinit FHi HC Dis G1 Dgs G5
  have G7 : FnOk l.prog w K mg base CX0 1 fHb _ ["self"] (spHStart CH) := ok_hstart FHb HC
  have G8 : FnOk l.prog w K mg base CX0 1 fHs _ ["self"] (spHSteps CH) := ok_hsteps FHs HC
  have G9 : FnOk l.prog w K mg base CX0 1 fHw _ ["self"] (spHWords CH) := ok_hwords FHw HC T
  have G10 : FnOk l.prog w K mg base CX0 1 fHe _ ["self", "other"] (spHEq CH) := ok_heq FHe HC JH T
  have G11 : FnOk l.prog w K mg base CX0 1 flp _ ["_law_script"] (spPool K) := ok_pool Dlp T
  have G12 : FnOk l.prog w K mg base CX0 1 fld _ ["_law_pool_here", "_law_many"] spDraw := ok_draw Dld T
  have G13 : FnOk l.prog w K mg base CX0 3 flN _ ["_law_pool_here", "_law_many"] spNames := ok_names DlN Dln Dld T
  have G14 : FnOk l.prog w K mg base CX0 3 flh _ ["_law_pool_here", "_law_words", "_law_most"] spHandL := ok_handL Dlh Dld Dlk T
  have G15 : FnOk l.prog w K mg base CX0 3 flc _ ["_law_pool_here", "_law_start", "_law_steps"] spChanged := ok_changed Dlc Dld Dlk T
  exact ok_law Flaw T HC Dlp G11 Dld G12 DlN G13 Dlh G14 Dlc G15 MH G6 bHi PHb G7 bHb PHs G8 bHs PHw G9 bHw EH G10 bHe
end WW
open PySem PySem.W PyProof.Rows in
set_option maxRecDepth 100000 in
set_option maxHeartbeats 0 in
theorem PySem.Challenge.cw_watchedworks_k01_hands_are_equal_holds : PySem.Challenge.rw_watchedworks_k01_hands_are_equal.Holds := by
  w_on; o_law; k_head; (case hw => w_witness2)
  k_fill
  refine L2.walk_of (l := PySem.Challenge.rw_watchedworks_k01_hands_are_equal) (n := 63) (k := 8) (x := "_law_script") (CX := fun _ => L2.CX0) (sp := fun w => WW.spLaw _) rfl (by decide) rfl ⟨rfl, by decide, by decide⟩ (fun w h Y => PySem.W.kIn_of Y) ?F (fun _ _ a ns hl _ hS => ⟨a, ns, rfl, hS, hl, fun _ => rfl⟩) (fun _ _ _ _ _ h => h)
  case F =>
    intro w mg fa h KX G hmg
    refine' WW.all_mk KX G hmg ?zabs ?zint ?zlen ?zmax ?zrange ?ztuple ?zlist ?zstr ?zbool ?zisinstance ?zall ?zsorted ?zenumerate ?vsm ?vms ?vmo ?aii ?lii ?cii ?kii ?aib ?lib ?cib ?kib ?ais ?lis ?cis ?kis ?ain ?lin ?cin ?kin ?air ?lir ?cir ?kir ?aip ?lip ?cip ?kip ?ags ?lgs ?cgs ?kgs ?aCH ?pgH ?hdH ?poH ?saH ?nHB ?nHR ?mkH ?aiH ?iiH ?kcH ?lHi ?cHi ?kHi ?paHb ?pbHb ?pcHb ?pdHb ?lHb ?cHb ?kHb ?paHs ?pbHs ?pcHs ?pdHs ?lHs ?cHs ?kHs ?paHw ?pbHw ?pcHw ?pdHw ?lHw ?cHw ?kHw ?eaH ?ebH ?ecH ?edH ?lHe ?cHe ?kHe ?jaH ?jbH ?jcH ?jdH ?alp ?llp ?clp ?klp ?ald ?lld ?cld ?kld ?alk ?llk ?clk ?klk ?aln ?lln ?cln ?kln ?alN ?llN ?clN ?klN ?alh ?llh ?clh ?klh ?alc ?llc ?clc ?klc ?alaw ?llaw ?claw ?klaw
    (case zabs => k_is)
    (case zint => k_is)
    (case zlen => k_is)
    (case zmax => k_is)
    (case zrange => k_is)
    (case ztuple => k_is)
    (case zlist => k_is)
    (case zstr => k_is)
    (case zbool => k_is)
    (case zisinstance => k_is)
    (case zall => k_is)
    (case zsorted => k_is)
    (case zenumerate => k_is)
    (case vsm => k_is)
    (case vms => k_is)
    (case vmo => k_is)
    (case aii => k_is)
    (case lii => k_is)
    (case cii => k_is)
    (case kii => k_is)
    (case aib => k_is)
    (case lib => k_is)
    (case cib => k_is)
    (case kib => k_is)
    (case ais => k_is)
    (case lis => k_is)
    (case cis => k_is)
    (case kis => k_is)
    (case ain => k_is)
    (case lin => k_is)
    (case cin => k_is)
    (case kin => k_is)
    (case air => k_is)
    (case lir => k_is)
    (case cir => k_is)
    (case kir => k_is)
    (case aip => k_is)
    (case lip => k_is)
    (case cip => k_is)
    (case kip => k_is)
    (case ags => k_is)
    (case lgs => k_is)
    (case cgs => k_is)
    (case kgs => k_is)
    (case aCH => k_is)
    (case pgH => k_is)
    (case hdH => k_is)
    (case poH => k_is)
    (case saH => k_is)
    (case nHB => k_is)
    (case nHR => k_is)
    (case mkH => k_is)
    (case aiH => k_is)
    (case iiH => k_is)
    (case kcH => k_is)
    (case lHi => k_is)
    (case cHi => k_is)
    (case kHi => k_is)
    (case paHb => k_is)
    (case pbHb => k_is)
    (case pcHb => k_is)
    (case pdHb => k_is)
    (case lHb => k_is)
    (case cHb => k_is)
    (case kHb => k_is)
    (case paHs => k_is)
    (case pbHs => k_is)
    (case pcHs => k_is)
    (case pdHs => k_is)
    (case lHs => k_is)
    (case cHs => k_is)
    (case kHs => k_is)
    (case paHw => k_is)
    (case pbHw => k_is)
    (case pcHw => k_is)
    (case pdHw => k_is)
    (case lHw => k_is)
    (case cHw => k_is)
    (case kHw => k_is)
    (case eaH => k_is)
    (case ebH => k_is)
    (case ecH => k_is)
    (case edH => k_is)
    (case lHe => k_is)
    (case cHe => k_is)
    (case kHe => k_is)
    (case jaH => k_is)
    (case jbH => k_is)
    (case jcH => k_is)
    (case jdH => k_is)
    (case alp => k_is)
    (case llp => k_is)
    (case clp => k_is)
    (case klp => k_is)
    (case ald => k_is)
    (case lld => k_is)
    (case cld => k_is)
    (case kld => k_is)
    (case alk => k_is)
    (case llk => k_is)
    (case clk => k_is)
    (case klk => k_is)
    (case aln => k_is)
    (case lln => k_is)
    (case cln => k_is)
    (case kln => k_is)
    (case alN => k_is)
    (case llN => k_is)
    (case clN => k_is)
    (case klN => k_is)
    (case alh => k_is)
    (case llh => k_is)
    (case clh => k_is)
    (case klh => k_is)
    (case alc => k_is)
    (case llc => k_is)
    (case clc => k_is)
    (case klc => k_is)
    (case alaw => k_is)
    (case llaw => k_is)
    (case claw => k_is)
    (case klaw => k_is)

