import PyProof.Rows.All
import Wide.All
import OpenK.AllK
import Wide.FinOn
import HandS.ForMost
import HandS.Style
import HandS.Deep
import HandS.IsInst
import HandS.Property
import HandS.OwnEq
import HandS.Codes
import KE.SortData
import KE.GoesSet
import KE.KExcSuper
import HandS.Nested
import HandS.ClsMeth
import HandS.ExcInit
import HandS.WordsExc
import HandS.ExcField
import HandS.ExcIs
import HandS.TryMany
import KE.KExcIs
import KE.GoesMore
import HandS.Set
import HandS.SetBool
import HandS.TupSets
import KE.OsSortAny
import HandS.Dict
import HandS.DictEq
import HandS.DictComp
import HandS.ListItems
import HandS.WordsDict
import KE.KDictCopyH
import HandS.Iter
import KE.KDictDisplayH
import HandS.Conv
import HandS.Walk
import PySem.Challenge.RW_watchedworks_k20_instruments_and_their_a
set_option Elab.async false
set_option linter.all false
set_option maxRecDepth 100000
set_option maxHeartbeats 4000000
/-! generic words for the laws of this program, over the hand layer -/
namespace WW
open PySem PySem.Spec PyProof.Rows L2

/-! ### a def of the text -/
structure Df (K : PySem.W.Frag) (mg : Str → Option Value) (x : Str) (st : Stmt) (ps : List Str) (f : Addr) (fd : FuncData) : Prop where
  fn : Fun K x x st f fd
  gl : mg x = some (.ref f)
  bi : Binds K fd ps []

section
variable {X : Cx} {k : Nat} {x : Str} {st : Stmt} {ps : List Str} {f : Addr} {fd : FuncData} {sp : Sp} {e : Expr} {es : List Expr} {p pos : Pos} {t : TA}
theorem pe_df (D : Df X.K X.mg x st ps f fd) (F : FnOk X.prog X.w X.K X.mg X.base CX0 k f fd ps sp) (hr : Room k X.A) (ha : PA X (e :: es) t) (hg : Gl X x := by rfl)
    (hdb : (x == ("__debug__" : Str)) = false := by decide) (he : starEach (e :: es) X.env = (false, eval e X.env) :: starEach es X.env := by rfl) (hpl : (backTo pos (starEach es X.env)).any (·.1) = false := by rfl) :
    PE X (.Call (.Name x p) (e :: es) [] pos) (tCall sp [] E0 t) :=
  pe_call F hr hg D.gl D.fn.kp D.bi .nil pass0 ha hdb he hpl
end
theorem hu65 {A : Around} {k : Nat} (hr : Room k A) : A.units + 65 < cLine := by
  have := hr.un
  omega

/-! ### heaps: a stable part S of the heap H, and what may change -/
theorem Same.seqT {K : PySem.W.Frag} {H H' : Hp} {a : Addr} {xs : List V} (e : Same H H') (h : SqT K H a xs) : SqT K H' a xs := by
  rcases h with (h | ⟨o, h⟩) | h
  · exact .inl (.inl (e _ _ h))
  · exact .inl (.inr ⟨o, e _ _ h⟩)
  · exact .inr h
mutual
theorem dp_mono {K : PySem.W.Frag} {S H : Hp} (e : Same S H) : ∀ (d : PyData) {v : V}, Dp K S v d → Dp K H v d
  | .none, _, h => by cases h; exact .non
  | .bool b, _, h => by cases h; exact .bl b
  | .int i, _, h => by cases h; exact .int i
  | .str x, _, h => by cases h; exact .str x
  | .list ds, _, h => by
    cases h with
    | lst a b => exact .lst (e.seq a) (dpAll_mono e ds b)
  | .tuple ds, _, h => by
    cases h with
    | tup a b => exact .tup (Same.seqT e a) (dpAll_mono e ds b)
  | .dict _, _, h => by cases h
theorem dpAll_mono {K : PySem.W.Frag} {S H : Hp} (e : Same S H) : ∀ (ds : List PyData) {vs : List V}, DpAll K S vs ds → DpAll K H vs ds
  | [], _, h => by cases h; exact .nil
  | d :: ds, _, h => by
    cases h with
    | cons a b => exact .cons (dp_mono e d a) (dpAll_mono e ds b)
end
theorem Dp.mono {K : PySem.W.Frag} {S H : Hp} {d : PyData} {v : V} (e : Same S H) (h : Dp K S v d) : Dp K H v d := dp_mono e d h
theorem DpAll.mono {K : PySem.W.Frag} {S H : Hp} {ds : List PyData} {vs : List V} (e : Same S H) (h : DpAll K S vs ds) : DpAll K H vs ds := dpAll_mono e ds h
theorem same_upd {H : Hp} {p : Addr} {o : HO} (h : H p = none) : Same H (upd H p o) := fun b x e => by
  rw [upd_ne (ne_of_none e h)]
  exact e

/-- from (S, H) to (S', H'): the stable part grows by new objects alone, all but p stand as they stood -/
structure Gr (p : Addr) (S H S' H' : Hp) : Prop where
  st : Same S S'
  rs : ∀ a o, a ≠ p → H a = some o → H' a = some o
  fr : ∀ a, S a = none → H a ≠ none → S' a = none
  ex : ∀ a, H a ≠ none → H' a ≠ none
theorem Gr.refl {p : Addr} {S H : Hp} : Gr p S H S H := ⟨Same.refl _, fun _ _ _ h => h, fun _ h _ => h, fun _ h => h⟩
theorem Gr.trans {p : Addr} {S H S1 H1 S2 H2 : Hp} (a : Gr p S H S1 H1) (b : Gr p S1 H1 S2 H2) : Gr p S H S2 H2 :=
  ⟨a.st.trans b.st, fun c o n h => b.rs c o n (a.rs c o n h), fun c h1 h2 => b.fr c (a.fr c h1 h2) (a.ex c h2), fun c h => b.ex c (a.ex c h)⟩
theorem Gr.bk {p : Addr} {S H S' H' : Hp} (g : Gr p S H S' H') {a : Addr} (h : H' a = none) : H a = none := by
  cases q : H a with
  | none => rfl
  | some o => exact absurd h (g.ex a (by rw [q]; intro z; cases z))
theorem Gr.loc {p : Addr} {S H S' H' : Hp} (g : Gr p S H S' H') {a : Addr} {o : HO} (n : a ≠ p) (hs : S a = none) (h : H a = some o) : S' a = none ∧ H' a = some o :=
  ⟨g.fr a hs (by rw [h]; intro z; cases z), g.rs a o n h⟩
/-- a new object, stable -/
theorem Gr.new {p : Addr} {S H S' H' : Hp} (g : Gr p S H S' H') (w : Same S' H') {a : Addr} {o : HO} (n : H' a = none) : Gr p S H (upd S' a o) (upd H' a o) := by
  have hs : S' a = none := w.free n
  refine ⟨g.st.trans (same_upd hs), fun b u nb h => ?_, fun b h1 h2 => ?_, fun b h => ?_⟩
  · have nba : b ≠ a := fun q => by
      rw [q] at h
      rw [g.bk n] at h
      cases h
    rw [upd_ne nba]
    exact g.rs b u nb h
  · have nba : b ≠ a := fun q => by
      rw [q] at h2
      exact h2 (g.bk n)
    rw [upd_ne nba]
    exact g.fr b h1 h2
  · by_cases q : b = a
    · rw [q, upd_same]
      intro z
      cases z
    · rw [upd_ne q]
      exact g.ex b h
theorem same_new {S H : Hp} (w : Same S H) {a : Addr} {o : HO} : Same (upd S a o) (upd H a o) := fun b u h => by
  by_cases q : b = a
  · rw [q, upd_same] at h
    rw [q, upd_same]
    exact h
  · rw [upd_ne q] at h
    rw [upd_ne q]
    exact w b u h
/-- a new object, or one that was new and is not stable yet, is written -/
theorem Gr.put {p : Addr} {S H S' H' : Hp} (g : Gr p S H S' H') {a : Addr} {o : HO} (n : H a = none) : Gr p S H S' (upd H' a o) := by
  refine ⟨g.st, fun b u nb h => ?_, g.fr, fun b h => ?_⟩
  · have nba : b ≠ a := fun q => by
      rw [q, n] at h
      cases h
    rw [upd_ne nba]
    exact g.rs b u nb h
  · by_cases q : b = a
    · rw [q, upd_same]
      intro z
      cases z
    · rw [upd_ne q]
      exact g.ex b h
/-- .. p itself is written -/
theorem Gr.putP {p : Addr} {S H S' H' : Hp} (g : Gr p S H S' H') {o : HO} : Gr p S H S' (upd H' p o) := by
  refine ⟨g.st, fun b u nb h => ?_, g.fr, fun b h => ?_⟩
  · rw [upd_ne nb]
    exact g.rs b u nb h
  · by_cases q : b = p
    · rw [q, upd_same]
      intro z
      cases z
    · rw [upd_ne q]
      exact g.ex b h
theorem same_put {S H : Hp} (w : Same S H) {a : Addr} {o : HO} (n : S a = none) : Same S (upd H a o) := fun b u h => by
  rw [upd_ne (ne_of_none h n)]
  exact w b u h
/-- what was new and stands there becomes stable -/
theorem Gr.fix {p : Addr} {S H S' H' : Hp} (g : Gr p S H S' H') {a : Addr} {o : HO} (n : H a = none) (h : S' a = none) : Gr p S H (upd S' a o) H' := by
  refine ⟨g.st.trans (same_upd h), g.rs, fun b h1 h2 => ?_, g.ex⟩
  have nba : b ≠ a := fun q => by
    rw [q] at h2
    exact h2 n
  rw [upd_ne nba]
  exact g.fr b h1 h2
theorem same_fix {S H : Hp} (w : Same S H) {a : Addr} {o : HO} (h : H a = some o) : Same (upd S a o) H := fun b u e => by
  by_cases q : b = a
  · rw [q, upd_same] at e
    rw [q, h]
    exact e
  · rw [upd_ne q] at e
    exact w b u e

/-! ### slices by numbers -/
theorem cut_from (xs : List V) (i : Nat) : cutV xs (some (i : Int)) none = xs.drop i := by
  unfold cutV
  rw [HT.sIx_nat, HT.sIx_none]
  by_cases h : i ≤ xs.length
  · rw [Nat.min_eq_left h]
    exact List.take_of_length_le (by rw [List.length_drop]; exact Nat.le_refl _)
  · rw [Nat.min_eq_right (by omega), List.drop_of_length_le (Nat.le_refl _), List.drop_of_length_le (by omega)]
    simp
theorem cut_to (xs : List V) (i : Nat) : cutV xs none (some (i : Int)) = xs.take i := by
  unfold cutV
  rw [HT.sIx_nat, HT.sIx_none]
  show (xs.drop 0).take (min i xs.length - 0) = xs.take i
  rw [List.drop_zero, Nat.sub_zero]
  by_cases h : i ≤ xs.length
  · rw [Nat.min_eq_left h]
  · rw [Nat.min_eq_right (by omega), List.take_of_length_le (Nat.le_refl _), List.take_of_length_le (by omega)]
theorem cutS_to (z : Str) (i : Nat) : cutS z none (some (i : Int)) = ⟨(z.cps.toList.take i).toArray⟩ := by
  unfold cutS
  rw [HT.sIx_nat, HT.sIx_none]
  show (⟨((z.cps.toList.drop 0).take (min i z.length - 0)).toArray⟩ : Str) = _
  rw [List.drop_zero, Nat.sub_zero]
  have hl : z.length = z.cps.toList.length := by simp [Str.length]
  by_cases h : i ≤ z.length
  · rw [Nat.min_eq_left h]
  · rw [Nat.min_eq_right (by omega), List.take_of_length_le (by omega), List.take_of_length_le (by omega)]
theorem ixN_at {n : Nat} {k : Int} (j : Nat) (e : k = (j : Int)) (h : j < n) : ixN n k = some j := by
  subst e
  unfold ixN
  rw [if_pos (by omega), if_pos (by omega)]
  simp

/-! ### comprehensions whose element and test change nothing that stood -/
theorem fm_take {α β : Type} (f : α → Option β) : ∀ (xs : List α) (i : Nat) (x : α), xs[i]? = some x → (xs.take (i + 1)).filterMap f = (xs.take i).filterMap f ++ (match f x with | some y => [y] | none => [])
  | [], _, _, h => by simp at h
  | a :: r, 0, x, h => by
    have e : a = x := Option.some.inj h
    subst e
    simp only [List.take_succ_cons, List.take_zero, List.filterMap_cons, List.filterMap_nil]
    cases f a <;> rfl
  | a :: r, i + 1, x, h => by
    have ih := fm_take f r i x h
    simp only [List.take_succ_cons, List.filterMap_cons]
    cases f a with
    | none => exact ih
    | some y =>
      show y :: (r.take (i + 1)).filterMap f = _
      rw [ih]
      rfl
theorem lc_step {j : Nat} {tt : TT} {te : TE} {vs : List Nat} {σ : L2.St} {H1 : Hp} {D : Addr} (f : V → Option V) (xs : List V) (hlen : xs.length ≤ 1000)
    (hw : ∀ x, wipe ((wipe σ vs).set j (some x)) vs = wipe σ vs)
    (step : ∀ x H, x ∈ xs → Same H1 H → ∀ Q : Option V → Hp → Prop, (∀ H', Same H H' → Q (f x) H') → tt ((wipe σ vs).set j (some x)) H fun b H3 => if b = true then te ((wipe σ vs).set j (some x)) H3 (fun y H4 => Q (some y) H4) else Q none H3)
    (hD : H1 D = none) (i : Nat) (x : V) (H : Hp) (hi : xs[i]? = some x) (hp : Same H1 H ∧ H D = some (.lst ((xs.take i).filterMap f))) :
    gName j x (wipe σ vs) H fun σ2 H2 => wipe σ2 vs = wipe σ vs ∧ tt σ2 H2 fun b H3 =>
      if b = true then te σ2 H3 fun y H4 => ∃ acc, H4 D = some (.lst acc) ∧ acc.length < sizeLine ∧ (Same H1 (upd H4 D (.lst (acc ++ [y]))) ∧ upd H4 D (.lst (acc ++ [y])) D = some (.lst ((xs.take (i + 1)).filterMap f))) else (Same H1 H3 ∧ H3 D = some (.lst ((xs.take (i + 1)).filterMap f))) := by
  have hx : x ∈ xs := List.mem_of_getElem? hi
  refine ⟨hw x, ?_⟩
  refine step x H hx hp.1 (fun o H4 => match o with
    | some y => ∃ acc, H4 D = some (.lst acc) ∧ acc.length < sizeLine ∧ (Same H1 (upd H4 D (.lst (acc ++ [y]))) ∧ upd H4 D (.lst (acc ++ [y])) D = some (.lst ((xs.take (i + 1)).filterMap f)))
    | none => (Same H1 H4 ∧ H4 D = some (.lst ((xs.take (i + 1)).filterMap f)))) fun H' s => ?_
  have hd := s _ _ hp.2
  have e := fm_take f xs i x hi
  cases q : f x with
  | none =>
    rw [q] at e
    exact ⟨hp.1.trans s, by rw [hd, e, List.append_nil]⟩
  | some y =>
    rw [q] at e
    refine ⟨_, hd, ?_, fun b o h => ?_, by rw [upd_same, e]⟩
    · have h1 : ((xs.take i).filterMap f).length ≤ (xs.take i).length := List.length_filterMap_le _ _
      have h2 : (xs.take i).length ≤ xs.length := by rw [List.length_take]; omega
      exact small1000 (by omega)
    · rw [upd_ne (ne_of_none h hD)]
      exact s _ _ (hp.1 _ _ h)
theorem lc_pure {K : PySem.W.Frag} {a : Addr} {xs : List V} {j : Nat} {tt : TT} {te : TE} {vs : List Nat} {σ : L2.St} {H1 : Hp} {D : Addr} {Qd : Hp → Prop} (f : V → Option V) (hx : SqL K H1 a xs) (hlen : xs.length ≤ 1000)
    (hw : ∀ x, wipe ((wipe σ vs).set j (some x)) vs = wipe σ vs)
    (step : ∀ x H, x ∈ xs → Same H1 H → ∀ Q : Option V → Hp → Prop, (∀ H', Same H H' → Q (f x) H') → tt ((wipe σ vs).set j (some x)) H fun b H3 => if b = true then te ((wipe σ vs).set j (some x)) H3 (fun y H4 => Q (some y) H4) else Q none H3)
    (hD : H1 D = none) (hd : ∀ H, Same H1 H → H D = some (.lst (xs.filterMap f)) → Qd H) :
    ∃ W : Nat → Nat → Hp → Prop, (∃ m, W 0 m (upd H1 D (.lst []))) ∧ ∀ i m H, W i m H →
      ((Itl K a).stop i H ∧ Qd H) ∨ ((Itl K a).go i H ∧ ∃ Nx : Hp → Prop, (∀ H', Nx H' → ∃ m', m' < m ∧ W (i + 1) m' H') ∧ ∀ x H', (Itl K a).yld i H x H' → gName j x (wipe σ vs) H' fun σ2 H2 => wipe σ2 vs = wipe σ vs ∧ tt σ2 H2 fun b H3 =>
        if b = true then te σ2 H3 fun y H4 => ∃ acc, H4 D = some (.lst acc) ∧ acc.length < sizeLine ∧ Nx (upd H4 D (.lst (acc ++ [y]))) else Nx H3) :=
  lc_list (K := K) (a := a) (xs := xs) (fun i H => Same H1 H ∧ H D = some (.lst ((xs.take i).filterMap f))) ⟨same_upd hD, upd_same⟩ (fun i H _ h => h.1.seq hx) (fun i x H hi hp => lc_step f xs hlen hw step hD i x H hi hp)
    (fun H h => hd H h.1 (by have := h.2; rw [List.take_length] at this; exact this))
theorem lc_pureT {K : PySem.W.Frag} {a : Addr} {xs : List V} {j : Nat} {tt : TT} {te : TE} {vs : List Nat} {σ : L2.St} {H1 : Hp} {D : Addr} {Qd : Hp → Prop} (f : V → Option V) (hx : SqT K H1 a xs) (hlen : xs.length ≤ 1000)
    (hw : ∀ x, wipe ((wipe σ vs).set j (some x)) vs = wipe σ vs)
    (step : ∀ x H, x ∈ xs → Same H1 H → ∀ Q : Option V → Hp → Prop, (∀ H', Same H H' → Q (f x) H') → tt ((wipe σ vs).set j (some x)) H fun b H3 => if b = true then te ((wipe σ vs).set j (some x)) H3 (fun y H4 => Q (some y) H4) else Q none H3)
    (hD : H1 D = none) (hd : ∀ H, Same H1 H → H D = some (.lst (xs.filterMap f)) → Qd H) :
    ∃ W : Nat → Nat → Hp → Prop, (∃ m, W 0 m (upd H1 D (.lst []))) ∧ ∀ i m H, W i m H →
      ((Itt K a).stop i H ∧ Qd H) ∨ ((Itt K a).go i H ∧ ∃ Nx : Hp → Prop, (∀ H', Nx H' → ∃ m', m' < m ∧ W (i + 1) m' H') ∧ ∀ x H', (Itt K a).yld i H x H' → gName j x (wipe σ vs) H' fun σ2 H2 => wipe σ2 vs = wipe σ vs ∧ tt σ2 H2 fun b H3 =>
        if b = true then te σ2 H3 fun y H4 => ∃ acc, H4 D = some (.lst acc) ∧ acc.length < sizeLine ∧ Nx (upd H4 D (.lst (acc ++ [y]))) else Nx H3) :=
  lc_tup (K := K) (a := a) (xs := xs) (fun i H => Same H1 H ∧ H D = some (.lst ((xs.take i).filterMap f))) ⟨same_upd hD, upd_same⟩ (fun i H _ h => Same.seqT h.1 hx) (fun i x H hi hp => lc_step f xs hlen hw step hD i x H hi hp)
    (fun H h => hd H h.1 (by have := h.2; rw [List.take_length] at this; exact this))
/-- .. over a text -/
def signs (z : Str) : List V := z.cps.toList.map fun c => V.str ⟨#[c]⟩
theorem lc_pureS {x : Str} {j : Nat} {tt : TT} {te : TE} {vs : List Nat} {σ : L2.St} {H1 : Hp} {D : Addr} {Qd : Hp → Prop} (f : V → Option V) (hlen : x.length ≤ 1000)
    (hw : ∀ x, wipe ((wipe σ vs).set j (some x)) vs = wipe σ vs)
    (step : ∀ y H, y ∈ signs x → Same H1 H → ∀ Q : Option V → Hp → Prop, (∀ H', Same H H' → Q (f y) H') → tt ((wipe σ vs).set j (some y)) H fun b H3 => if b = true then te ((wipe σ vs).set j (some y)) H3 (fun y H4 => Q (some y) H4) else Q none H3)
    (hD : H1 D = none) (hd : ∀ H, Same H1 H → H D = some (.lst ((signs x).filterMap f)) → Qd H) :
    ∃ W : Nat → Nat → Hp → Prop, (∃ m, W 0 m (upd H1 D (.lst []))) ∧ ∀ i m H, W i m H →
      ((Its x).stop i H ∧ Qd H) ∨ ((Its x).go i H ∧ ∃ Nx : Hp → Prop, (∀ H', Nx H' → ∃ m', m' < m ∧ W (i + 1) m' H') ∧ ∀ y H', (Its x).yld i H y H' → gName j y (wipe σ vs) H' fun σ2 H2 => wipe σ2 vs = wipe σ vs ∧ tt σ2 H2 fun b H3 =>
        if b = true then te σ2 H3 fun y H4 => ∃ acc, H4 D = some (.lst acc) ∧ acc.length < sizeLine ∧ Nx (upd H4 D (.lst (acc ++ [y]))) else Nx H3) := by
  have hsz : x.cps.size = (signs x).length := by simp [signs]
  have hl2 : (signs x).length ≤ 1000 := by rw [← hsz]; exact hlen
  refine ⟨fun i m H => m = x.cps.size - i ∧ i ≤ x.cps.size ∧ Same H1 H ∧ H D = some (.lst (((signs x).take i).filterMap f)), ⟨_, rfl, Nat.zero_le _, same_upd hD, upd_same⟩, ?_⟩
  rintro i m H ⟨rfl, hi, hs, he⟩
  by_cases h : i < x.cps.size
  · refine .inr ⟨h, fun H => Same H1 H ∧ H D = some (.lst (((signs x).take (i + 1)).filterMap f)), fun H' h' => ⟨_, by omega, rfl, by omega, h'⟩, ?_⟩
    rintro y H' ⟨rfl, c, hc, rfl⟩
    refine lc_step f (signs x) hl2 hw step hD i _ H' ?_ ⟨hs, he⟩
    unfold signs
    rw [List.getElem?_map, Array.getElem?_toList, hc]
    rfl
  · refine .inl ⟨by show x.cps.size ≤ i; omega, hd H hs ?_⟩
    rw [he, List.take_of_length_le (by omega)]
theorem at_ofG {α : Type} {xs : List α} {z : Int} {j : Nat} {v : α} (e : z = (j : Int)) (h : xs[j]? = some v) : atI xs z = some v := by
  rw [e]
  exact atI_nat h
theorem Gr.same {p : Addr} {S H S' H' H2 : Hp} (g : Gr p S H S' H') (s : Same H' H2) : Gr p S H S' H2 :=
  ⟨g.st, fun a o n h => s _ _ (g.rs a o n h), g.fr, fun a h => by
    have := g.ex a h
    cases q : H' a with
    | none => exact absurd q this
    | some o =>
      rw [s _ _ q]
      intro z
      cases z⟩
end WW

set_option Elab.async false
set_option linter.all false
set_option maxRecDepth 100000
set_option maxHeartbeats 4000000
namespace WW
open PySem PySem.Spec PyProof.Rows L2
/-! ### super() in a def's body -/
/-- a body whose own code is known -/
structure PAt (X : Cx) (c : Code) (ss : List Stmt) (t : TS) : Prop where
  run : ∀ (pins : List (Addr × Obj)) (s : Shared) (σ : L2.St) (H : Hp) (D : Ends), Inv X pins σ H s → t D σ H → PySem.wpAt (model X.prog X.w) X.A c (execs ss X.env) (SP X pins D) X.xe s
section
variable {X : Cx} {c : Code} {st : Stmt} {ss : List Stmt} {t u : TS}
theorem pat_of (h : PSs X ss t) : PAt X c ss t := ⟨fun pins s σ H D I q => PySem.wpAt_of_wpAny (h.run pins s σ H D I q)⟩
theorem pat_cons (h : PS X st t) (r : PAt X c ss u) : PAt X c (st :: ss) (tSeq t u) := by
  refine ⟨fun pins s σ H D I q => ?_⟩
  refine PySem.ks_wpAt_execs_cons (PySem.wpAt_of_wpAny (thn (h.run pins s σ H { D with nx := u D } I q) fun f s1 q1 => ?_))
  cases f with
  | next =>
    obtain ⟨σ1, H1, I1, q2⟩ := q1
    exact r.run pins s1 σ1 H1 D I1 q2
  | ret v => exact q1
  | brk => exact q1
  | cont => exact q1
end
/-- what the text says where super() stands in a def at f, its code object at cda, the cell of its class D at cc -/
structure SupTxt (P : Program) (K : PySem.W.Frag) (mg : Str → Option Value) (f cda cc D : Addr) : Prop where
  fn : ∃ oc od fd osl ar, K.lookup f = some ⟨oc, od, .func fd, osl⟩ ∧ (fd.params.posonlyargs ++ fd.params.args).head? = some ar ∧ ar.arg = "self"
  code : ∃ ccl cdd vs ccs file tf, K.lookup cda = some ⟨ccl, cdd, .fields vs, ccs⟩ ∧ vs[2]? = some (.str file tf) ∧ ((P.main.file : Str) == file) = true
  cell : ∃ cl cld csl, K.lookup cc = some ⟨cl, cld, .cell (some (.ref D)), csl⟩
  dcl : ∃ cdD, PySem.W.clsIn K D = some cdD
  nosup : mg "super" = none
  top : (P.main.scope.names.lookup ("super" : Str)).isSome = false
  opq : PySem.W.nsIn K cStatics "thirdparty.any" = some none
/-- what the context of such a body has -/
structure SupX (X : Cx) (f cda cc : Addr) : Prop where
  func : X.env.func = some f
  code : X.env.code = .ref cda
  cell : X.env.cells.lookup ("__class__" : Str) = some cc
  ks : X.env.kindOf "super" = some .globalImplicit
  kc : X.env.kindOf "__class__" = some .free
  ka : X.env.kindOf "self" = some .local
  n0 : X.N[0]? = some ("self" : Str)
theorem boot_super : bootBuiltins "super" = some (.type "super") := by decide +kernel
section
variable {X : Cx} {pins : List (Addr × Obj)} {σ : L2.St} {H : Hp} {s : Shared} {f cda cc D C x : Addr}
theorem sup_node {body : List Stmt} {p0 p1 : Pos} {attr : Str} {whole : Sem Value} {ox : Obj} {odx : Option Obj} {Q : Value → Shared → Prop} {E : Value → Shared → Prop} (T : SupTxt X.prog X.K X.mg f cda cc D) (S : SupX X f cda cc) (I : Inv X pins σ H s) (h0 : σ[0]? = some (some (.ref x))) (J : PySem.W.InstAt s.heap x ox C odx)
    (hsub : PySem.W.mroIn X.K C (.ref D) = some true) (hat : (attr == ("__class__" : Str)) = false)
    (h : ∀ so s', Inv X ((so, PySem.W.ks_superObj D x C) :: pins) σ H s' → (∀ b o, s.heap.get? b = some o → s'.heap.get? b = some o) → Q (.ref so) s') :
    PySem.wpAt (model X.prog X.w) X.A (.func body X.env) (attributeBase (.Call (.Name "super" p0) [] [] p1) attr X.env whole) Q E s := by
  obtain ⟨oc, od, fd, osl, ar, hf, hp, har⟩ := T.fn
  obtain ⟨ccl, cdd, vs, ccs, file, tf, hco, hvs, hfile⟩ := T.code
  obtain ⟨cl, cld, csl, hcell⟩ := T.cell
  obtain ⟨cdD, hD⟩ := T.dcl
  have KX := I.kIn
  obtain ⟨oD, hD1, hD2⟩ : ∃ oD, s.heap.get? D = some oD ∧ oD.data = .cls cdD := by
    unfold PySem.W.clsIn at hD
    split at hD
    · rename_i c d cd' sl ho
      cases hD
      exact ⟨_, KX _ _ ho, rfl⟩
    · cases hD
  refine PySem.ks_wpAt_super_base (env := X.env) S.ks S.kc hat S.func (KX _ _ hf) rfl hp S.code (KX _ _ hco) rfl hvs hfile T.top ?_
  obtain ⟨mb, h1, h2⟩ := I.mod.blt
  refine PySem.W.ks_loadName_global I.ok.kind S.ks (Calls.loadGlobal_builtin (by rw [I.ok.glob]; exact I.mod.glob.keeps I.bk) T.nosup (by rw [I.ok.blt]; exact h1.keeps I.bk) ((h2 _ (by decide)).trans boot_super) ⟨rfl, ?_⟩)
  refine wpAny_loadName_free I.ok.kind S.kc S.cell ⟨_, KX _ _ hcell, rfl⟩ ?_
  rw [har]
  obtain ⟨m, hn, hl⟩ := I.loc
  obtain ⟨u, hu, lk⟩ := hl 0 "self" (.ref x) S.n0 h0 (.inl S.ka)
  obtain rfl : u = Value.ref x := hu
  have hm : m "self" = some (.ref x) := by
    rcases lk with ⟨_, e⟩ | ⟨e, _⟩
    · exact e
    · rw [S.ka] at e
      rcases e with e | e <;> cases e
  refine wpAny_loadName_local I.ok.kind S.ka hn hm ?_
  refine PySem.ks_wpAny_isType_cls hD1 hD2 ⟨rfl, ?_⟩
  obtain ⟨hh, g, d, tk, os⟩ := s
  refine PySem.ks_wpAny_call_super hD1 hD2 J.at_ J.cls (fun c e => ?_) (PySem.W.looks_mroIn KX hsub) (fun h' e k => ?_)
  · have := J.no
    unfold PySem.W.notCls at this
    rw [e] at this
    exact Bool.noConfusion this
  · exact h _ _ (ClX.pin_new (t' := tk) I k (Nat.le_refl _) e (fun v z => by cases z)) k
end
/-! ### super().__init__(..) of an exception -/
section
variable {X : Cx} {pins : List (Addr × Obj)} {σ : L2.St} {H : Hp} {s : Shared} {f cda cc C a u : Addr} {A : Around} {E : Value → Shared → Prop}
theorem call_mw {us : List Value} {Q : Value → Shared → Prop} (T : OexC X.K C) (I : Inv X pins σ H s) (hu : s.heap.get? u = some (PySem.W.kxs_mw "ValueError.__init__" a)) (e : H a = some (exo a C none)) (hl : us.length ≤ sizeLine) (h : ∀ s', Inv X pins σ H s' → Q .none s') :
    wpAny (model X.prog X.w) A (call (.ref u) us) Q E s := by
  obtain ⟨nm, q, N, bs, bm, sn, sub, ab, col, dd, k0, k1, k2, k3, k5, hC, hbm⟩ := T.cls
  obtain ⟨t1, ho⟩ := exo_at I.hok e
  have hCC := I.kIn _ _ hC
  obtain ⟨hp, g, d, tk, os⟩ := s
  have FB := F.excBase_ValueError
  refine wpAny_call (codeAny_of_tree ?_)
  show wpAny _ A.in1 (callAny (.ref u) ⟨us, []⟩) _ _ _
  simp only [callAny]
  refine wpAny_bind (wpAny_load hu ?_)
  simp only [PySem.W.kxs_mw, show (Value.type "method-wrapper" == Value.type "method" || Value.type "method-wrapper" == Value.type "builtin_function_or_method" || Value.type "method-wrapper" == Value.type "method-wrapper") = true by decide, if_true]
  refine PySem.W.KFB.if_so (by decide) ?_
  refine wpAny_bind (PySem.W.check_bound_init FB.toExcCallFacts hCC ho rfl ?_)
  refine wpAny_bind (wpAny_pure (wpAny_pure ?_))
  refine ⟨plainId_quiet FB.init.plain _, codeAny_builtin FB.initEntry ?_⟩
  refine PySem.W.exc_init_tree (cls := .ref C) (t0 := t1) (dv := none) (c2 := .none) (c3 := .none) (b4 := .bool false) ho hl (fun h' k hx _ => ?_)
  have J := I.write (t' := tk) (x := a) (e := a) (o := exo a C none) (by rw [e]; exact True.intro) (.inl rfl) k ⟨_, hx⟩ (exo_ok hx)
  have eu : upd H a (exo a C none) = H := by
    funext b
    by_cases hb : b = a
    · rw [hb, upd_same, e]
    · rw [upd_ne hb]
  rw [eu] at J
  exact h _ J
end
/-- the reading of «super().__init__(..)» in an exception's __init__; the rest u -/
def tSupX (C : Addr) (ta : TA) (u : TS) : TS := fun D σ H => ∃ a, σ[0]? = some (some (.ref a)) ∧ H a = some (exo a C none) ∧ ta σ H fun vs H1 => vs.length ≤ 1000 ∧ H1 a = some (exo a C none) ∧ u D σ H1
section
variable {X : Cx} {f cda cc C : Addr}
theorem pat_supX {body : List Stmt} {p0 p1 p2 pos pos' : Pos} {e : Expr} {es : List Expr} {rest : List Stmt} {ta : TA} {u : TS} {pl : Sem Bool} (T : SupTxt X.prog X.K X.mg f cda cc C) (S : SupX X f cda cc) (O : OexC X.K C) (hsub : PySem.W.mroIn X.K C (.ref C) = some true)
    (hm : PySem.W.ks_superIn X.K C C "__init__" = some (some (.builtin "ValueError.__init__"))) (hB : PySem.W.subIn X.K (.ref C) (.type "ValueError") = some true)
    (ha : PA X (e :: es) ta) (hr : PAt X (.func body X.env) rest u)
    (he : starEach (e :: es) X.env = (false, eval e X.env) :: starEach es X.env := by rfl) (hpl : (backTo pos (starEach es X.env)).any (·.1) = false := by rfl)
    (ht : eval (.Call (.Attribute (.Call (.Name "super" p0) [] [] p1) "__init__" p2) (e :: es) [] pos) X.env = (do
      let ov ← attributeBase (.Call (.Name "super" p0) [] [] p1) "__init__" X.env (eval (.Call (.Name "super" p0) [] [] p1) X.env)
      standAt p2.atName
      let (f, first) ← holding [ov] (getMethod ov "__init__" pl)
      callWith pos f first (backTo pos (starEach (e :: es) X.env)) []) := by rfl)
    (hs : swapsWith (.Call (.Attribute (.Call (.Name "super" p0) [] [] p1) "__init__" p2) (e :: es) [] pos) none pos'.line X.env = pure false := by rfl) :
    PAt X (.func body X.env) (.Expr (.Call (.Attribute (.Call (.Name "super" p0) [] [] p1) "__init__" p2) (e :: es) [] pos) pos' :: rest) (tSupX C ta u) := by
  refine ⟨fun pins s σ H D I q => ?_⟩
  obtain ⟨a, h0, ea, q⟩ := q
  obtain ⟨t1, ho⟩ := exo_at I.hok ea
  have J : PySem.W.InstAt s.heap a _ C none := ⟨ho, rfl, rfl, trivial⟩
  refine PySem.ks_wpAt_execs_cons (PySem.ks_wpAt_Expr_any ?_ I.quiet hs)
  refine PySem.ks_wpAt_MethodCall (pl := pl) ?_ ht
  refine sup_node T S I h0 J hsub (by decide) fun so s1 I1 k1 => ?_
  have KX := I1.kIn
  have J1 : PySem.W.InstAt s1.heap a _ C none := ⟨k1 _ _ ho, rfl, rfl, trivial⟩
  have hI : PySem.W.Looks (model X.prog X.w) s1.heap (isInstance (.ref a) (.type "ValueError")) true := J1.type.andThen (PySem.W.looks_subIn KX hB)
  cases hc : PySem.W.clsIn X.K C with
  | none =>
    unfold PySem.W.ks_superIn at hm
    rw [hc] at hm
    cases hm
  | some cd =>
    unfold PySem.W.ks_superIn at hm
    rw [hc] at hm
    have hso := ClX.pin_at I1
    have hne := PySem.W.ks_ne KX J1 hc
    have hop := PySem.W.looks_opaque (M := model X.prog X.w) (C := C) KX T.opq
    have hmro : PySem.W.Looks (model X.prog X.w) s1.heap (mroOf (.ref C)) cd.mro := fun A Q E s k q => wpAny_bind ((PySem.W.looks_clsIn KX hc) A _ E s k (wpAny_pure q))
    obtain ⟨hp, g, d, tk, os⟩ := s1
    refine PySem.W.kxs_getMethod PySem.W.kxs_ValueError hso hop hmro rfl KX hm hI hne (by decide) ?_
    have I2 : Inv X ((hp.objs.size, PySem.W.kxs_mw "ValueError.__init__" a) :: (so, PySem.W.ks_superObj C a C) :: pins) σ H ⟨hp.push (PySem.W.kxs_mw "ValueError.__init__" a), g, d, tk + 1, os⟩ :=
      ClX.pin_new (t' := tk + 1) I1 (fun b o z => Heap.get?_push_of_some _ z) (Nat.le_refl _) (Heap.get?_push_at rfl rfl) (fun v z => by cases z)
    show wpAny _ _ (callWith pos (.ref hp.objs.size) [] (backTo pos (starEach (e :: es) X.env)) []) _ _ _
    rw [he]
    refine PySem.W.kxs_callWith (i := "ValueError.__init__") (x := a) (by show (false || (backTo pos (starEach es X.env)).any (·.1)) = false; rw [hpl]; rfl) ?_
    refine PySem.Calls.evalArgs_plain ?_
    have hrun := ha.run pos _ _ σ H _ I2 q
    rw [he] at hrun
    refine thn hrun fun us s3 ⟨vs, H3, I3, r3, hlen, ea3, q3⟩ => ⟨ClX.pin_at I3, ?_⟩
    show wpAny _ _ (call (.ref hp.objs.size) us) _ _ _
    refine call_mw O I3 (ClX.pin_at I3) ea3 (by rw [← Paired.length r3, sizeLine_eq]; omega) fun s4 I4 => ?_
    exact hr.run pins s4 σ H3 D (ClX.unpin (ClX.unpin I4)) q3
end
/-! ### a def that says super() keeps its promise -/
theorem fn_sup {CX : CXT} {P : Program} {w : World} {K : PySem.W.Frag} {mg : Str → Option Value} {base : Heap} {k : Nat} {f cda cc D : Addr} {name qual : Str} {params : Arguments} {body : List Stmt} {scope : Scope} {doc pm ct oc : Value} {od : Option Addr}
    {osl : Array (Option Value)} {N ps : List Str} {sp : Sp} {cl cld csl} (lk : K.lookup f = some ⟨oc, od, .func (PySem.W.fnX name qual params body scope [("__class__", cc)] .none .none doc pm none (.ref cda) ct), osl⟩) (hcd : PySem.W.codeIn K (.ref cda) qual = true)
    (hcell : K.lookup cc = some ⟨cl, cld, .cell (some (.ref D)), csl⟩) (S : NdefX.NScope N ps ["__class__"] scope)
    (len : ∀ vs H Q E, sp vs H Q E → vs.length = ps.length)
    (hbody : ∀ (A : Around) (outer : List Env) (s : Shared) (H : Hp) (vs : List V) (Q : VK) (E : XK), Room k (A.deeper (NdefX.envF ⟨name, qual, params, body, scope, [("__class__", cc)], cda⟩ f s.heap.objs.size)) → sp vs H Q E →
      ∃ t, PAt (NdefX.ncx CX P w K mg base N ⟨name, qual, params, body, scope, [("__class__", cc)], cda⟩ f A outer s H E) (.func body (NdefX.envF ⟨name, qual, params, body, scope, [("__class__", cc)], cda⟩ f s.heap.objs.size)) body t ∧ t { nx := fun _ H' => Q .non H', rt := Q } (NdefX.startF N vs [none]) H) :
    FnOk P w K mg base CX (k + 1) f (PySem.W.fnX name qual params body scope [("__class__", cc)] .none .none doc pm none (.ref cda) ct) ps sp := by
  refine ⟨len, fun A outer s H args us vs Q E hr e0 hb r hsp => ?_⟩
  have hl := len _ _ _ _ hsp
  have KX : K.In s.heap := e0.mod.kin.keeps fun b o e => (e0.bs b o e).1
  have lim : s.heap.NoLimit := e0.mod.nolimit.keeps fun b o e => (e0.bs b o e).1
  have hcl : ∀ y c, ([("__class__", cc)] : List (Str × Addr)).lookup y = some c → y = "__class__" ∧ c = cc := fun y c e => by
    rcases PySem.mem_of_lookup e with _ | ⟨_, z⟩
    · exact ⟨rfl, rfl⟩
    · cases z
  have hc0 : ([("__class__", cc)] : List (Str × Addr)).lookup ("__class__" : Str) = some cc := by simp [List.lookup]
  have CA : NdefX.CellsAt [("__class__", cc)] ["__class__"] [none] s.heap H := by
    refine ⟨rfl, fun y c e => ?_, fun y z c e1 e2 => (hcl y c e1).1.trans (hcl z c e2).1.symm, fun i y e => ?_⟩
    · obtain ⟨_, rfl⟩ := hcl y c e
      exact ⟨(e0.bs _ _ (e0.mod.kin _ _ hcell)).2, _, _, KX _ _ hcell, rfl⟩
    · cases i with
      | zero =>
        have z : ("__class__" : Str) = y := Option.some.inj e
        subst z
        exact ⟨cc, hc0, fun v z => by cases z⟩
      | succ i => simp at e
  refine PySem.ks_codeAny_call_defAt (fd := PySem.W.fnX name qual params body scope [("__class__", cc)] .none .none doc pm none (.ref cda) ct) (body := body) hr.depth (KX _ _ lk) rfl lim (PySem.W.codeRec_of KX hcd) rfl hb S.nocell (fun ⟨n, _⟩ hy => S.par n (List.of_mem_zip hy).1) (fun h₁ hns kp => ?_) S.co S.gen S.kind
  obtain ⟨t, ht, hq⟩ := hbody A outer s H vs Q E (hr.deeper _) hsp
  have I : Inv (NdefX.ncx CX P w K mg base N ⟨name, qual, params, body, scope, [("__class__", cc)], cda⟩ f A outer s H E) [] (NdefX.startF N vs [none]) H { s with heap := h₁, toks := s.toks + (ps.zip us).length } := NdefX.inv_startN S hr.hd e0 hl r CA hns kp
  refine PySem.ks_wpAt_mono (ht.run [] _ (NdefX.startF N vs [none]) H _ I hq) (fun fl s' hs => ?_) fun e s' hs => hs
  have fin : ∀ {σ' : L2.St} {H' : Hp} {v : V} {u : Value}, Inv (NdefX.ncx CX P w K mg base N ⟨name, qual, params, body, scope, [("__class__", cc)], cda⟩ f A outer s H E) [] σ' H' s' → L2.RelV v u → Q v H' → CE outer P w H s Q u s' :=
    fun {σ' H' v u} J rv q => ⟨v, H', J.os, J.bare, J.base, J.hok, rv, q⟩
  cases fl with
  | ret u =>
    obtain ⟨v, σ', H', J, rv, q⟩ := hs
    exact fin J rv q
  | next =>
    obtain ⟨σ', H', J, q⟩ := hs
    exact fin (v := V.non) (u := Value.none) J rfl q
  | brk =>
    obtain ⟨_, _, _, q⟩ := hs
    exact False.elim q
  | cont =>
    obtain ⟨_, _, _, q⟩ := hs
    exact False.elim q
end WW

set_option Elab.async false
set_option linter.all false
set_option maxRecDepth 100000
set_option maxHeartbeats 4000000
namespace WW
open PySem PySem.Spec PyProof.Rows L2
/-! ### an exception class of the program: class X(..): def __init__(self, f): super().__init__(f); self.f = f -/
def spXI (C : Addr) (fld : Str) : Sp := fun vs H Q _ => ∃ (a : Addr) (y : V), vs = [.ref a, y] ∧ H a = some (exo a C none) ∧ ∀ dx, H dx = none → dx ≠ a → Q .non (upd (upd H dx (exd dx [(fld, y)])) a (exo a C (some dx)))
/-- the text of such an __init__ -/
def excBody (fld : Str) (st : Stmt) : Prop := ∃ p0 p1 p2 p3 p4 p5 p6 p7 p8 p9 : Pos, defBody st = [.Expr (.Call (.Attribute (.Call (.Name "super" p0) [] [] p1) "__init__" p2) [.Name fld p3] [] p4) p5, .Assign [.Attribute (.Name "self" p6) fld p7] (.Name fld p8) p9] ∧
  ∀ env : Env, ∃ pl : Sem Bool, eval (.Call (.Attribute (.Call (.Name "super" p0) [] [] p1) "__init__" p2) [.Name fld p3] [] p4) env = (do
      let ov ← attributeBase (.Call (.Name "super" p0) [] [] p1) "__init__" env (eval (.Call (.Name "super" p0) [] [] p1) env)
      standAt p2.atName
      let (f, first) ← holding [ov] (getMethod ov "__init__" pl)
      callWith p4 f first (backTo p4 (starEach [.Name fld p3] env)) [])
theorem ok_exc {P : Program} {w : World} {K : PySem.W.Frag} {mg : Str → Option Value} {base : Heap} {fI cda cc C : Addr} {qual fld : Str} {st : Stmt} {doc pm ct oc : Value} {od : Option Addr} {osl : Array (Option Value)}
    (lk : K.lookup fI = some ⟨oc, od, .func (PySem.W.fnX "__init__" qual (defArgs st) (defBody st) (defScope st) [("__class__", cc)] .none .none doc pm none (.ref cda) ct), osl⟩) (hcd : PySem.W.codeIn K (.ref cda) qual = true)
    (T : SupTxt P K mg fI cda cc C) (O : OexC K C) (hsub : PySem.W.mroIn K C (.ref C) = some true) (hm : PySem.W.ks_superIn K C C "__init__" = some (some (.builtin "ValueError.__init__"))) (hB : PySem.W.subIn K (.ref C) (.type "ValueError") = some true)
    (hno : PySem.W.findIn K (.ref C) fld = some none) (S : NdefX.NScope ["self", fld, "__class__"] ["self", fld] ["__class__"] (defScope st)) (hks : (defScope st).names.lookup ("super" : Str) = some .globalImplicit) (hb : excBody fld st)
    (hd1 : (fld == ("__debug__" : Str)) = false) (hd2 : (fld == ("__classdict__" : Str)) = false) :
    FnOk P w K mg base CX0 1 fI (PySem.W.fnX "__init__" qual (defArgs st) (defBody st) (defScope st) [("__class__", cc)] .none .none doc pm none (.ref cda) ct) ["self", fld] (spXI C fld) := by
  obtain ⟨cl, cld, csl, hcell⟩ := T.cell
  refine fn_sup (N := ["self", fld, "__class__"]) lk hcd hcell S (fun vs H Q E h => ?_) (fun A outer s H vs Q E hr h => ?_)
  · obtain ⟨a, y, rfl, _⟩ := h
    rfl
  · obtain ⟨a, y, rfl, ha, q⟩ := h
    obtain ⟨p0, p1, p2, p3, p4, p5, p6, p7, p8, p9, eb, hte⟩ := hb
    have hX : SupX (NdefX.ncx CX0 P w K mg base ["self", fld, "__class__"] ⟨"__init__", qual, defArgs st, defBody st, defScope st, [("__class__", cc)], cda⟩ fI A outer s H E) fI cda cc :=
      ⟨rfl, rfl, by show ([("__class__", cc)] : List (Str × Addr)).lookup ("__class__" : Str) = some cc; simp [List.lookup], hks, S.frk _ (by simp), S.par _ (by simp), rfl⟩
    have vf : Vis (defScope st) fld := .inl (S.par _ (by simp))
    have vs' : Vis (defScope st) "self" := .inl (S.par _ (by simp))
    have main : ∃ t, PAt (NdefX.ncx CX0 P w K mg base ["self", fld, "__class__"] ⟨"__init__", qual, defArgs st, defBody st, defScope st, [("__class__", cc)], cda⟩ fI A outer s H E) (.func (defBody st) (NdefX.envF ⟨"__init__", qual, defArgs st, defBody st, defScope st, [("__class__", cc)], cda⟩ fI s.heap.objs.size))
        [.Expr (.Call (.Attribute (.Call (.Name "super" p0) [] [] p1) "__init__" p2) [.Name fld p3] [] p4) p5, .Assign [.Attribute (.Name "self" p6) fld p7] (.Name fld p8) p9] t ∧ t { nx := fun _ H' => Q .non H', rt := Q } (NdefX.startF ["self", fld, "__class__"] [.ref a, y] [none]) H := by
      obtain ⟨pl, ht⟩ := hte (NdefX.ncx CX0 P w K mg base ["self", fld, "__class__"] ⟨"__init__", qual, defArgs st, defBody st, defScope st, [("__class__", cc)], cda⟩ fI A outer s H E).env
      refine ⟨_, pat_supX (pl := pl) (ht := ht) T hX O hsub hm hB (pa_cons (pv 1 (hv := vf) (hd := hd1) (hcd := hd2)) pa_nil) (pat_of (pss_one (ps_ost (pv 0 (hv := vs')) (pv 1 (hv := vf) (hd := hd1) (hcd := hd2))))), ?_⟩
      refine ⟨a, rfl, ha, _, rfl, by simp, ha, _, rfl, _, rfl, a, C, rfl, O, hno, .inl ⟨ha, fun dx n ne => q dx n ne⟩⟩
    rw [← eb] at main
    exact main
/-- C(y) as it is raised: the wish behind it -/
theorem mkx {C : Addr} {fld : Str} {y : V} {H1 : Hp} {Q : XK} (q : ∀ d, H1 d = none → Q (.ref C) (some d) (upd H1 d (.xd [(fld, y)]))) : ([y] : List V).length ≤ 1000 ∧ ∀ a, H1 a = none → spXI C fld (.ref a :: ([y] ++ [])) (upd H1 a (exo a C none))
    (fun v H2 => v = .non ∧ ∃ (d : Addr) (fs : List (Str × V)), H2 a = some (exo a C (some d)) ∧ H2 d = some (exd d fs) ∧ H1 d = none ∧ Q (.ref C) (some d) (upd (del H2 a) d (.xd fs))) (fun _ _ _ => False) := by
  refine ⟨by simp, fun a na => ⟨a, y, rfl, upd_same, fun dx n ne => ⟨rfl, dx, _, upd_same, (upd_ne ne).trans upd_same, ?_, ?_⟩⟩⟩
  · rw [upd_ne ne] at n
    exact n
  · rw [upd_ne ne] at n
    have e : upd (del (upd (upd (upd H1 a (exo a C none)) dx (exd dx [(fld, y)])) a (exo a C (some dx))) a) dx (.xd [(fld, y)]) = upd H1 dx (.xd [(fld, y)]) := by
      funext b
      by_cases hb : b = dx
      · rw [hb, upd_same, upd_same]
      · rw [upd_ne hb, upd_ne hb]
        by_cases ha : b = a
        · rw [ha, del_same, na]
        · rw [del_ne ha, upd_ne ha, upd_ne hb, upd_ne ha]
    rw [e]
    exact q dx n
/-! ### C(..) where __init__ may raise -/
def tMakeS (C : Addr) (sp : Sp) (E : L2.St → XK) (t : TA) : TE := fun σ H Q => t σ H fun vs H1 => ∀ x dx, H1 x = none → H1 dx = none → dx ≠ x →
  sp (.ref x :: vs) (upd (upd H1 dx (.own x)) x (.ins C dx [])) (fun v H2 => v = .non ∧ Q (.ref x) H2) (E σ)
section
variable {X : Cx} {CX : CXT} {k : Nat} {f C : Addr} {fd : FuncData} {ps : List Str} {sp : Sp} {E : L2.St → XK} {x : Str} {p pos : Pos} {e : Expr} {es : List Expr} {t : TA}
theorem pe_makeS (M : Mk X.K C f) (F : FnOk X.prog X.w X.K X.mg X.base CX k f fd ps sp) (hr : Room (k + 1) X.A) (hg : Gl X x) (hm : X.mg x = some (.ref C)) (hb : Binds X.K fd ps []) (hx : ∀ σ, PassesAt CX X σ (E σ))
    (ha : PA X (e :: es) t) (hdb : (x == ("__debug__" : Str)) = false := by decide) (he : starEach (e :: es) X.env = (false, eval e X.env) :: starEach es X.env := by rfl) (hpl : (backTo pos (starEach es X.env)).any (·.1) = false := by rfl) :
    PE X (.Call (.Name x p) (e :: es) [] pos) (tMakeS C sp E t) := by
  refine ⟨fun pins s σ H Q I h => ?_⟩
  refine wpAny_Call_Name_kw (ld_glob I hg hm ?_ hdb)
  refine PySem.W.callWith_K (h₀ := X.base) I.ok.mod.kin M.kp (thn (ha.run pos pins s σ H _ I h) fun us s1 ⟨vs, H1, I1, r, q⟩ => ⟨I1.kIn, ?_⟩) he hpl
  show wpAny _ _ (call (.ref C) us) _ _ _
  have hq := q (s1.heap.objs.size + 1) s1.heap.objs.size (I1.hok.fresh (Nat.le_succ _)) (I1.hok.fresh (Nat.le_refl _)) (Nat.ne_of_lt (Nat.lt_succ_self _))
  have I2 := Inv.made (C := C) I1
  have r2 : Vals (V.ref (s1.heap.objs.size + 1) :: vs) (Value.ref (s1.heap.objs.size + 1) :: us) := .cons rfl r
  have hl : (Value.ref (s1.heap.objs.size + 1) :: us).length = ps.length := by
    have e := r2.length
    rw [F.len _ _ _ _ hq] at e
    exact e.symm
  have hbb := hb _ (Value.ref (s1.heap.objs.size + 1) :: us) I2.kIn (by rw [List.append_nil]; exact hl)
  rw [List.append_nil] at hbb
  refine wpAny_call (make_map (f := f) I1.kIn M.makes M.init (beq_iff_eq.mp M.fn) (codeAny_mono (F.run _ X.stack _ _ ⟨Value.ref (s1.heap.objs.size + 1) :: us, []⟩ (Value.ref (s1.heap.objs.size + 1) :: us) _ _ (E σ) (hr.make C us [])
    (I2.env0.make C us []) hbb r2 hq) fun r s' hq' => ?_))
  cases r with
  | error e => exact hx σ pins _ _ e s' I2 hq'
  | ok fl =>
    cases fl with
    | ret u =>
      obtain ⟨v, H', I3, rv, ev, q3⟩ := I2.after hq'
      subst ev
      exact ⟨rv, ⟨V.ref (s1.heap.objs.size + 1), H', I3, rfl, q3⟩⟩
    | next => exact False.elim hq'
    | brk => exact False.elim hq'
    | cont => exact False.elim hq'
end
/-! ### isinstance(e, c), e the exception that the suite holds, its fields in a dict -/
section
variable {X : Cx}
/-- the reading of isinstance(e, c): e's class is the one at D -/
def rIsED (K : PySem.W.Frag) (D a : Addr) (cls : Value) (d : Option Addr) : List V → Hp → VK → Prop := fun xs H Q => cls = .ref D ∧ ∃ (dd : Addr) (fs : List (Str × V)), d = some dd ∧ H dd = some (.xd fs) ∧ rIsE K D a xs H Q
theorem call_isED {a D : Addr} {cls : Value} {d : Option Addr} {oe : Obj} {pn : List (Addr × Obj)} (C : ExcC X.K D) (hz : Zc cls d oe) (hf : ∃ vs, oe.data = .fields vs) :
    CallR (X.suite a ((a, oe) :: pn)) (.builtin "isinstance") (rIsED X.K D a cls d) := by
  intro pins s σ H xs us Q I r h
  obtain ⟨rfl, dd, fs, rfl, hdd, c, cv, b, rfl, hcv, e, q⟩ := h
  cases r with
  | cons rx rr =>
    cases rr with
    | cons rt rr =>
      cases rr
      cases rx
      have ec := hcv _ rt
      subst ec
      obtain ⟨hget, _⟩ := I.pin (a, oe) (List.mem_append.mpr (.inl List.mem_cons_self))
      obtain ⟨vs, hv⟩ := hf
      have hx : ObjOk X.prog X.w H s.heap dd (.xd fs) := I.hok dd _ hdd
      obtain ⟨mA, hns, _⟩ := hx
      obtain ⟨od, ho, _⟩ := lookIn_ns hns
      have J : PySem.W.InstAt s.heap a oe D (some od) := by
        obtain ⟨oc, odi, oda, osl⟩ := oe
        obtain ⟨h1, h2⟩ := hz
        dsimp only at h1 h2 hv
        subst h1 h2 hv
        exact ⟨hget, rfl, rfl, ho⟩
      have hcl : (PySem.W.clsIn X.K D).isSome = true := by
        obtain ⟨cd, hc, _⟩ := PySem.W.any_some C.hd
        rw [hc]
        rfl
      exact PySem.W.kia_one (PySem.W.kitx_exc hcl C.hg C.hk C.hs C.ha C.hn C.ht C.hm) I.kIn J e (fun z => nomatch z) fun tk => ⟨.bl b, H, I.kept (t' := tk) fun _ _ z => z, rfl, q⟩
end
/-! ### several clauses «except x as n» -/
def dAs (i : Nat) (D : Ends) : Ends := { nx := fun σ' H' => D.nx (σ'.set i none) H', rt := D.rt, bk := fun σ' H' => D.bk (σ'.set i none) H', ct := fun σ' H' => D.ct (σ'.set i none) H' }
def wManyA (K : PySem.W.Frag) (Wout : WX) (D : Ends) : List (Value × Nat × (Addr → Value → Option Addr → TS)) → WX
  | [] => Wout
  | (c, i, ts) :: r => fun cls d σ H => ∃ b, PySem.W.exmOne K cls c = some b ∧ (b = true → ∀ a, H a = none → ts a cls d (dAs i D) (σ.set i (some (.ref a))) H) ∧ (b = false → wManyA K Wout D r cls d σ H)
inductive HdsA (X : Cx) : List ExceptHandler → List (Value × Nat × (Addr → Value → Option Addr → TS)) → Prop
  | nil : HdsA X [] []
  | cons {x n : Str} {c : Value} {i : Nat} {ts : Addr → Value → Option Addr → TS} {b₀ : Stmt} {suite : List Stmt} {np pos' : Pos} {hds : List ExceptHandler} {l : List (Value × Nat × (Addr → Value → Option Addr → TS))} (hi : X.N[i]? = some n) (hln : X.env.kindOf n = some .local) (hc : Names X x c)
      (hsu : ∀ (a : Addr) (oe : Obj) (cls : Value) (d : Option Addr) (pn : List (Addr × Obj)), Zc cls d oe → (∃ vs, oe.data = .fields vs) → PSs (X.suite a ((a, oe) :: pn)) (b₀ :: suite) (ts a cls d)) (r : HdsA X hds l) :
      HdsA X (.ExceptHandler (some (.Name x np)) (some n) (b₀ :: suite) pos' :: hds) ((c, i, ts) :: l)
section
variable {X : Cx} {body : List Stmt} {h₀ : ExceptHandler} {hds : List ExceptHandler} {l : List (Value × Nat × (Addr → Value → Option Addr → TS))} {pos : Pos} {tb : WX → TS} {Wout : WX}
theorem ps_try_manyA (hs : X.stack = X.env :: X.outer) (hf : X.env.frame = some X.env.locals) (hN : X.N.Nodup) (tk : Takes X Wout)
    (hb : ∀ (W : WX) (pn : List (Addr × Obj)) (xe : Value → Shared → Prop), Takes (X.tr pn xe) W → PassesOwn (model X.prog X.w) X.A X.env xe → PSs (X.tr pn xe) body (tb W))
    (hh : HdsA X (h₀ :: hds) l) : PS X (.Try body (h₀ :: hds) [] [] pos) (fun D σ H => tb (wManyA X.K Wout D l) D σ H) := by
  refine ⟨fun pins s σ H D I h => ?_⟩
  have ok := I.ok
  have hfr : X.A.frames = some (X.env :: X.outer) := by rw [ok.frames, hs]
  refine wpAny_Try_except ?_
  refine wpAny_mono ((hb (wManyA X.K Wout D l) (X.pn ++ pins) (fun e s₁ => wpAny (model X.prog X.w) X.A (noteFrame e X.env) (fun _ s₂ => wpAny (model X.prog X.w) X.A (setFlight e none) (fun _ s₃ =>
    wpAny (model X.prog X.w) X.A (handleBy e X.env (h₀ :: hds)) (SP X pins D) X.xe s₃) X.xe s₂) X.xe s₁) (fun u s' xx => ?_) PassesOwn.looking).run [] s σ H D (I.toTry _) h) (fun f s1 hsp => ?_) (fun e s1 he => he)
  · -- the catch
    obtain ⟨a, B, sI, pins', σ', H', cls, d, rfl, J', nb, up, sky, na, os, ag, w⟩ := xx
    have J : Inv X pins σ' H' sI := J'.ofTry ok
    have sky' : Sky B (X.env :: X.outer) a (Zc cls d) X.env.locals s'.heap := by rw [← hs]; exact sky
    show wpAny (model X.prog X.w) X.A (noteFrame (.ref a) X.env) _ _ _
    refine Sky.land Zc.steady hfr hf sky' fun h3 fl3 up3 => ?_
    have J3 : Inv X pins σ' H' { s' with heap := h3 } := J.landed nb fl3.1 (up.trans up3) os ag
    obtain ⟨oe3, vs3, he3, hz3, hd3⟩ := fl3.there
    have notFr : ∀ {h : Heap} {o : Obj} {vs : Array Value}, h.FunFrames B (X.env :: X.outer) → h.get? a = some o → o.data = .fields vs → a ∉ frs (X.env :: X.outer) := fun {h o vs} ff e dd hm => by
      obtain ⟨_, o', e', hnf⟩ := ff.mem hm
      rw [e] at e'; cases e'
      exact hnf _ dd
    have nfr := notFr fl3.2.2.1 he3 hd3
    have nL : a ≠ X.env.locals := fun z => nfr (List.mem_filterMap.mpr ⟨X.env, List.mem_cons_self, by rw [hf, z]⟩)
    have nF : a ∉ X.fs := fun hm => by
      obtain ⟨e, he, q⟩ := List.mem_filterMap.mp hm
      exact nfr (List.mem_filterMap.mpr ⟨e, List.mem_cons_of_mem _ he, q⟩)
    have S3 := J3.suite he3 hd3 na nL nF
    have go : ∀ {hds' : List ExceptHandler} {l' : List (Value × Nat × (Addr → Value → Option Addr → TS))}, HdsA X hds' l' → wManyA X.K Wout D l' cls d σ' H' →
        wpAny (model X.prog X.w) X.A (handleBy (.ref a) X.env hds') (SP X pins D) X.xe { s' with heap := h3 } := by
      intro hds' l' hk
      induction hk with
      | nil =>
        intro w
        refine wpAny_handleBy_nil ?_
        obtain ⟨k1, k2, k3, oe, vs, T, oT, ts', he, hz, hd, h1, hr⟩ := id fl3
        unfold PySem.passOn
        refine wpAny_bind (wpAny_field he hd h1 ?_)
        rw [if_neg (show ¬ ((Value.ref T == Value.none) = true) from by simp)]
        have fin : wpAny (model X.prog X.w) X.A (setFlight (.ref a) X.env.frame) (fun _ s4 => wpAny (model X.prog X.w) X.A (throw (.ref a) : Sem Flow) (SP X pins D) X.xe s4) X.xe { s' with heap := h3 } := by
          rw [hf]
          refine HandSPX.setFlight_upZ fl3 fun h4 hh4 up4 => wpAny_throw (tk _ _ ?_)
          exact ⟨a, B, sI, pins, σ', H', cls, d, rfl, J, nb, (up.trans up3).trans up4, .inr (.inr (by rw [hs]; exact hh4)), na, os, ag, w⟩
        first
          | exact wpAny_bind (wpAny_pure (wpAny_bind fin))
          | exact wpAny_bind fin
      | @cons x n c i ts b₀ suite np pos' hds2 l2 hi hln hc hsu r ih =>
        intro w
        obtain ⟨b, hb1, hyes, hno⟩ := w
        have hloc : Loc X.env.scope n := .inl hln
        refine wpAny_handleBy_cons (codeAny_handlers_test ?_) (by intro q; cases q)
        have LT : PySem.W.Looks (model X.prog X.w) h3 (typeOf (.ref a)) cls := fun A Q E s k q => wpAny_typeOf_ref (k _ _ he3) (by rw [hz3.1]; exact q)
        have LM := PySem.W.exm_one (M := model X.prog X.w) (J3.kIn) LT hb1
        have test : ∀ {Q : Value → Shared → Prop} {E : Value → Shared → Prop}, Q c { s' with heap := h3 } → wpAny (model X.prog X.w) (X.A.mark (some (.ref a))) (eval (.Name x np) X.env) Q E { s' with heap := h3 } := fun {Q E} q => by
          obtain ⟨hg, hdbg, hm | ⟨hm, hv, hnn⟩⟩ := hc
          · exact ld_glob (X := X.suite a ((a, oe3) :: (X.pn ++ pins))) S3 hg hm q hdbg
          · exact ld_blt (X := X.suite a ((a, oe3) :: (X.pn ++ pins))) S3 hg hm hv q hnn hdbg
        refine test (LM.here ?_)
        cases b with
        | true =>
          refine codeAny_handlers_suite_as ?_
          refine HandSPX.lands_againZ fl3 fun h4 fl4 up4 => ?_
          have J4 : Inv X pins σ' H' { s' with heap := h4 } := J.landed nb fl4.1 ((up.trans up3).trans up4) os ag
          obtain ⟨oe4, vs4, he4, hz4, hd4⟩ := fl4.there
          have S4 := J4.suite he4 hd4 na nL nF
          refine store_ok (X := X.suite a ((a, oe4) :: (X.pn ++ pins))) (v := .ref a) S4 hN hi hloc rfl (fun s5 S5 => ?_) (.inr hln)
          refine wpAny_mono ((hsu a oe4 cls d (X.pn ++ pins) hz4 ⟨_, hd4⟩).run [] s5 _ H' _ S5 (hyes rfl a na)) (fun f s6 hsp => ?_) (fun _ _ z => False.elim z)
          have end_ : ∀ {σ6 : L2.St} {H6 : Hp} {Q : Shared → Prop}, Inv (X.suite a ((a, oe4) :: (X.pn ++ pins))) [] σ6 H6 s6 → (∀ s7, Inv X pins (σ6.set i none) H6 s7 → Q s7) →
              wpAny (model X.prog X.w) X.A (do bindName X.env n .none; unbindBehindTheSuite X.env n pos') (fun _ s7 => Q s7) X.xe s6 := fun {σ6 H6 Q} S6 hq => gone_ok (S6.unsuite ok) hN hi hln hq
          cases f with
          | next =>
            obtain ⟨σ6, H6, S6, q6⟩ := hsp
            exact end_ S6 fun s7 J7 => ⟨_, _, J7, q6⟩
          | brk =>
            obtain ⟨σ6, H6, S6, q6⟩ := hsp
            exact end_ S6 fun s7 J7 => ⟨_, _, J7, q6⟩
          | cont =>
            obtain ⟨σ6, H6, S6, q6⟩ := hsp
            exact end_ S6 fun s7 J7 => ⟨_, _, J7, q6⟩
          | ret u =>
            obtain ⟨v6, σ6, H6, S6, r6, q6⟩ := hsp
            exact end_ S6 fun s7 J7 => ⟨_, _, _, J7, r6, q6⟩
        | false =>
          show wpAny _ X.A (handleBy (.ref a) X.env hds2) _ _ _
          exact ih (hno rfl)
    exact go hh w
  · cases f with
    | next =>
      obtain ⟨σ', H', J', q⟩ := hsp
      exact wpAny_execs_nil ⟨σ', H', J'.ofTry ok, q⟩
    | brk =>
      obtain ⟨σ', H', J', q⟩ := hsp
      exact ⟨σ', H', J'.ofTry ok, q⟩
    | cont =>
      obtain ⟨σ', H', J', q⟩ := hsp
      exact ⟨σ', H', J'.ofTry ok, q⟩
    | ret u =>
      obtain ⟨v, σ', H', J', r, q⟩ := hsp
      exact ⟨v, σ', H', J'.ofTry ok, r, q⟩
end
end WW

set_option Elab.async false
set_option linter.all false
set_option maxRecDepth 100000
set_option maxHeartbeats 4000000
namespace WW
open PySem PySem.Spec PyProof.Rows L2
/-- an exception class of the program, its one field fld -/
structure ExcT (P : Program) (w : World) (K : PySem.W.Frag) (mg : Str → Option Value) (x : Str) (C fI : Addr) (fld : Str) (fdI : FuncData) : Prop where
  o : OexC K C
  gl : mg x = some (.ref C)
  iC : PySem.W.findIn K (.ref C) "__init__" = some (some (.ref fI))
  tI : PySem.W.typeIn K (.ref fI) = some (.type "function")
  bi : Binds K fdI ["self", fld] []
  ok : ∀ base, FnOk P w K mg base CX0 1 fI fdI ["self", fld] (spXI C fld)
section
variable {X : Cx} {x fld : Str} {C fI : Addr} {fdI : FuncData} {e : Expr} {ta : TA} {p pos pos2 : Pos} {W : WX}
theorem ps_raiseX (T : ExcT X.prog X.w X.K X.mg x C fI fld fdI) (hr : Room 2 X.A) (hg : Gl X x) (hc : X.calm = true) (tk : Takes X W) (ha : PA X [e] ta) (hdb : (x == ("__debug__" : Str)) = false := by decide)
    (he : starEach [e] X.env = (false, eval e X.env) :: starEach [] X.env := by rfl) (hpl : (backTo pos (starEach [] X.env)).any (·.1) = false := by rfl) :
    PS X (.Raise (some (.Call (.Name x p) [e] [] pos)) none pos2) (fun _ σ H => tMkO C (spXI C fld) [] ta σ H fun cls d H' => W cls d σ H') :=
  ps_raise hc tk (pmk_oex T.o T.iC T.tI (T.ok X.base) hr T.bi .nil pass0 hg T.gl ha hdb he hpl)
end
section
variable {X : Cx} {k : Nat} {x : Str} {st : Stmt} {ps : List Str} {f : Addr} {fd : FuncData} {sp : Sp} {e : Expr} {es : List Expr} {p pos : Pos} {t : TA} {W : WX}
theorem pe_dfS (D : Df X.K X.mg x st ps f fd) (F : FnOk X.prog X.w X.K X.mg X.base (L2.CX X.prog X.w) k f fd ps sp) (hr : Room k X.A) (tk : Takes X W) (ha : PA X (e :: es) t) (hg : Gl X x := by rfl)
    (hdb : (x == ("__debug__" : Str)) = false := by decide) (he : starEach (e :: es) X.env = (false, eval e X.env) :: starEach es X.env := by rfl) (hpl : (backTo pos (starEach es X.env)).any (·.1) = false := by rfl) :
    PE X (.Call (.Name x p) (e :: es) [] pos) (tCallS sp (WE W) t) :=
  pe_callS F hr hg D.gl D.fn.kp D.bi (fun σ => passAt tk σ) ha hdb he hpl
end
end WW

set_option Elab.async false
set_option linter.all false
set_option maxRecDepth 100000
set_option maxHeartbeats 4000000
namespace WW
open PySem PySem.Spec PyProof.Rows L2
/-! ### a def that says super() and has cells of its own -/
structure InF (s₀ : Shared) (env : Env) (m cm : Str → Option Value) (s : Shared) : Prop where
  toInCall : InCall s₀ env.locals m s
  own : ∀ n c, env.kindOf n = some .cell → env.cells.lookup n = some c → s.heap.IsCell c (cm n) ∧ env.locals < c
  apart : env.cells.Pairwise fun x y => x.2 ≠ y.2
  all : ∀ n c, env.cells.lookup n = some c → ∃ v, s.heap.IsCell c v
  nloc : ∀ n c, env.cells.lookup n = some c → c ≠ env.locals
section
variable {M : Model} {A : Around} {E : Value → Shared → Prop} {s₀ s : Shared} {m cm : Str → Option Value} {env : Env}
theorem stLF {n : Str} {v : Value} {Q : Unit → Shared → Prop} (x : InF s₀ env m cm s) (hk : env.scope.kind = .function) (hl : env.kindOf n = some .local)
    (h : ∀ s', InF s₀ env (fun y => if y = n then some v else m y) cm s' → Q () s') : wpAny M A (storeName env n v) Q E s := by
  refine wpAny_storeName_local hl x.toInCall.ns (fun h' hn' hs' => h _ ⟨⟨?_, hn', fun b o e => ?_, x.toInCall.fresh⟩, fun k c hkk hc => ?_, x.apart, fun k c hc => ?_, x.nloc⟩) (by rw [hk]; rfl)
  · obtain ⟨h₁, tk, rfl⟩ := x.toInCall.same
    exact ⟨h', _, rfl⟩
  · exact hs'.extBut b o (Nat.ne_of_lt (Nat.lt_of_lt_of_le (Heap.lt_size e) x.toInCall.fresh)) (x.toInCall.keep b o e)
  · obtain ⟨h1, h2⟩ := x.own k c hkk hc
    exact ⟨h1.sameBut hs' (Nat.ne_of_gt h2), h2⟩
  · obtain ⟨v', h1⟩ := x.all k c hc
    exact ⟨v', h1.sameBut hs' (x.nloc k c hc)⟩
theorem stCF {n : Str} {c : Addr} {v : Value} {Q : Unit → Shared → Prop} (x : InF s₀ env m cm s) (hk : env.scope.kind = .function) (hl : env.kindOf n = some .cell) (hc : env.cells.lookup n = some c)
    (h : ∀ s', InF s₀ env m (fun y => if y = n then some v else cm y) s' → Q () s') : wpAny M A (storeName env n v) Q E s := by
  obtain ⟨hic, hLc⟩ := x.own n c hl hc
  refine wpAny_storeName_cell hk hl hc hic fun h' hc' hs' => h _ ⟨⟨?_, x.toInCall.ns.sameBut hs' (Nat.ne_of_lt hLc), fun b o e => ?_, x.toInCall.fresh⟩, fun k c' hkk hk' => ?_, x.apart, fun k c' hk' => ?_, x.nloc⟩
  · obtain ⟨h₁, tk, rfl⟩ := x.toInCall.same
    exact ⟨h', _, rfl⟩
  · exact hs'.extBut b o (Nat.ne_of_lt (Nat.lt_trans (Nat.lt_of_lt_of_le (Heap.lt_size e) x.toInCall.fresh) hLc)) (x.toInCall.keep b o e)
  · by_cases hkn : k = n
    · subst hkn
      rw [hc] at hk'
      cases hk'
      exact ⟨by simpa using hc', hLc⟩
    · rw [if_neg hkn]
      obtain ⟨h1, h2⟩ := x.own k c' hkk hk'
      exact ⟨h1.sameBut hs' fun e => hkn (PySem.name_of_addr x.apart (PySem.mem_of_lookup hk') (e ▸ PySem.mem_of_lookup hc)), h2⟩
  · by_cases e : c' = c
    · subst e
      exact ⟨_, hc'⟩
    · obtain ⟨v', h1⟩ := x.all k c' hk'
      exact ⟨v', h1.sameBut hs' e⟩
theorem bindF (f : Str × Value → PUnit → Sem (ForInStep PUnit)) (hf : ∀ n v u, f (n, v) u = (do storeName env n v; pure (.yield ⟨⟩))) (hk : env.scope.kind = .function) :
    ∀ (binds : List (Str × Value)) (m cm : Str → Option Value) (s : Shared) (Q : PUnit → Shared → Prop), InF s₀ env m cm s →
      (∀ x ∈ binds, env.kindOf x.1 = some .local ∨ (env.kindOf x.1 = some .cell ∧ (env.cells.lookup x.1).isSome = true)) →
      (∀ s', InF s₀ env (bindL env.kindOf binds m) (bindC env.kindOf binds cm) s' → Q ⟨⟩ s') → wpAny M A (forIn binds ⟨⟩ f) Q E s
  | [], m, cm, s, Q, x, _, h => by rw [List.forIn_nil]; exact wpAny_pure (h s x)
  | (n, v) :: r, m, cm, s, Q, x, hkind, h => by
    rw [List.forIn_cons, hf]
    have hr : ∀ y ∈ r, env.kindOf y.1 = some .local ∨ (env.kindOf y.1 = some .cell ∧ (env.cells.lookup y.1).isSome = true) := fun y hy => hkind y (List.mem_cons_of_mem _ hy)
    rcases hkind (n, v) List.mem_cons_self with hl | ⟨hl, hc⟩
    · refine wpAny_bind (wpAny_bind (stLF x hk hl fun s' x' => wpAny_pure (bindF f hf hk r _ _ s' Q x' hr fun s'' x'' => h s'' ?_)))
      unfold bindL bindC
      rw [if_pos hl, if_pos hl]
      exact x''
    · obtain ⟨c, hc⟩ := Option.isSome_iff_exists.mp hc
      have hnl : ¬ env.kindOf n = some .local := by rw [hl]; decide
      refine wpAny_bind (wpAny_bind (stCF x hk hl hc fun s' x' => wpAny_pure (bindF f hf hk r _ _ s' Q x' hr fun s'' x'' => h s'' ?_)))
      unfold bindL bindC
      rw [if_neg hnl, if_neg hnl]
      exact x''
end
/-- the cells of a frame: the closure's, and new ones -/
theorem cf_ok : ∀ (names : List (Str × NameKind)) (h : Heap) (lo : Nat) (cl acc : List (Str × Addr)), lo ≤ h.objs.size → (∀ p ∈ acc, p ∈ cl ∨ (h.IsCell p.2 none ∧ lo ≤ p.2)) → (∀ p ∈ acc, p.2 < h.objs.size) → (acc.Pairwise fun x y => x.2 ≠ y.2) →
    (∀ p ∈ cellsFrom h.objs.size names acc, p ∈ cl ∨ ((pushCells h names).IsCell p.2 none ∧ lo ≤ p.2)) ∧ ((cellsFrom h.objs.size names acc).Pairwise fun x y => x.2 ≠ y.2)
  | [], _, _, _, _, _, x, _, y => ⟨x, y⟩
  | (name, kind) :: r, h, lo, cl, acc, hlo, x, lt, y => by
    unfold pushCells cellsFrom
    split
    · have := cf_ok r (h.push { cls := .type "cell", data := .cell none }) lo cl ((name, h.objs.size) :: acc) (by rw [Heap.size_push]; omega) (fun p hp => by
          rcases List.mem_cons.mp hp with e | hp
          · subst e
            exact .inr ⟨⟨_, Heap.get?_push_size _ rfl, rfl⟩, hlo⟩
          · rcases x p hp with z | ⟨z1, z2⟩
            · exact .inl z
            · exact .inr ⟨z1.keeps fun b o e => Heap.get?_push_of_some _ e, z2⟩) (fun p hp => by
          rw [Heap.size_push]
          rcases List.mem_cons.mp hp with e | hp
          · subst e
            exact Nat.lt_succ_self _
          · exact Nat.lt_succ_of_lt (lt p hp)) (List.pairwise_cons.mpr ⟨fun z hz e => by
            have hlt := lt z hz
            have e' : h.objs.size = z.2 := e
            rw [← e'] at hlt
            exact Nat.lt_irrefl _ hlt, y⟩)
      rwa [Heap.size_push] at this
    · exact cf_ok r h lo cl acc hlo x lt y
section
variable {M : Model} {A : Around} {E : Value → Shared → Prop} {s : Shared}
theorem newEnvF {scope : Scope} {globals : Addr} {binds : List (Str × Value)} {qual : Str} {func : Option Addr} {code : Value} {builtins cc : Addr} {occ : Obj} {Q : Env → Shared → Prop}
    {v0 : Option Value} (hk : scope.kind = .function) (hfree : scope.names.lookup ("__class__" : Str) = some .free) (hcc : s.heap.get? cc = some occ) (hcv : occ.data = .cell v0)
    (hkind : ∀ x ∈ binds, scope.names.lookup x.1 = some .local ∨ (scope.names.lookup x.1 = some .cell ∧ ((cellsFrom (s.heap.objs.size + 1) scope.names [("__class__", cc)]).lookup x.1).isSome = true))
    (hQ : ∀ env, env = newEnv scope s.heap.objs.size globals (cellsFrom (s.heap.objs.size + 1) scope.names [("__class__", cc)]) qual func code none builtins →
      ∀ s', InF s env (bindL env.kindOf binds fun _ => none) (bindC env.kindOf binds fun _ => none) s' → Q env s') :
    wpAny M A (newFunctionEnv scope globals [("__class__", cc)] binds qual func code none builtins) Q E s := by
  simp only [newFunctionEnv, Option.isSome_none, Bool.false_eq_true, if_false]
  refine wpAny_bind (wpAny_alloc ?_)
  refine wpAny_bind (wpAny_layCells _ (fun name kind cells => by cases hkc : kind == NameKind.cell <;> simp [hkc]) _ _ _ _ ?_)
  have hlt : cc < s.heap.objs.size := Heap.lt_size hcc
  have ok := cf_ok scope.names (s.heap.push { cls := .type "frame", data := .dict #[] }) (s.heap.objs.size + 1) [("__class__", cc)] [("__class__", cc)] (by rw [Heap.size_push]; exact Nat.le_refl _) (fun p hp => .inl hp) (fun p hp => by
    rw [List.mem_singleton.mp hp, Heap.size_push]
    exact Nat.lt_succ_of_lt hlt) (List.pairwise_singleton _ _)
  rw [Heap.size_push] at ok
  rw [show ({ s with heap := s.heap.push { cls := .type "frame", data := .dict #[] } } : Shared).heap.objs.size = s.heap.objs.size + 1 from Heap.size_push ..]
  refine wpAny_bind (bindF (s₀ := s) (env := newEnv scope s.heap.objs.size globals (cellsFrom (s.heap.objs.size + 1) scope.names [("__class__", cc)]) qual func code none builtins)
    _ (fun _ _ _ => rfl) hk binds (fun _ => none) (fun _ => none) _ _
    ⟨⟨⟨_, _, rfl⟩, (Heap.Ns.new s.heap (.type "frame")).keeps (pushCells_keeps _ _), fun b o e => pushCells_keeps _ _ b o (Heap.get?_push_of_some _ e), Nat.le_refl _⟩,
      fun n c hkn hc => ?_, ok.2, fun n c hc => ?_, fun n c hc => ?_⟩
    hkind fun s' x => wpAny_pure (hQ _ rfl s' x))
  rotate_left
  · rcases ok.1 (n, c) (PySem.mem_of_lookup hc) with h | h
    · have e := List.mem_singleton.mp h
      cases e
      exact ⟨v0, _, pushCells_keeps _ _ _ _ (Heap.get?_push_of_some _ hcc), hcv⟩
    · exact ⟨_, h.1⟩
  · rcases ok.1 (n, c) (PySem.mem_of_lookup hc) with h | h
    · have e := List.mem_singleton.mp h
      cases e
      exact Nat.ne_of_lt hlt
    · exact Nat.ne_of_gt h.2
  rcases ok.1 (n, c) (PySem.mem_of_lookup hc) with h | h
  · have e := List.mem_singleton.mp h
    cases e
    have hkn : scope.names.lookup ("__class__" : Str) = some .cell := hkn
    rw [hfree] at hkn
    cases hkn
  · exact ⟨h.1, h.2⟩
end
/-- names: the parameters first; the class cell is the one free name -/
structure CScope (N P : List Str) (sc : Scope) : Prop where
  kind : sc.kind = .function
  co : sc.isCoroutine = false
  gen : sc.isGenerator = false
  nd : N.Nodup
  pre : N.take P.length = P
  par : ∀ x ∈ P, sc.names.lookup x = some .local ∨ sc.names.lookup x = some .cell
  free : ∀ y ∈ sc.names, y.2 = .free → y.1 = "__class__"
  cls : sc.names.lookup ("__class__" : Str) = some .free
  nown : ∀ y ∈ sc.names, y.2 = .cell → y.1 ≠ "__class__"
def envS (qual : Str) (scope : Scope) (L a cda cc : Addr) : Env :=
  { scope := scope, locals := L, globals := mainGlobals, cells := cellsFrom (L + 1) scope.names [("__class__", cc)], qual := qual ++ ".<locals>.", func := some a, code := .ref cda, frame := some L, builtins := builtinsNs }
theorem cf_keep : ∀ (names : List (Str × NameKind)) (n : Nat) (acc : List (Str × Addr)) {x : Str} {c : Addr}, (∀ y ∈ names, y.2 = .cell → y.1 ≠ x) → acc.lookup x = some c → (cellsFrom n names acc).lookup x = some c
  | [], _, _, _, _, _, h => h
  | (name, kind) :: r, n, acc, x, c, hn, h => by
    unfold cellsFrom
    split
    · rename_i hk
      refine cf_keep r _ _ (fun y hy => hn y (List.mem_cons_of_mem _ hy)) ?_
      have ne : name ≠ x := hn (name, kind) List.mem_cons_self (beq_iff_eq.mp hk)
      rw [List.lookup_cons, show (x == name) = false from beq_eq_false_iff_ne.mpr (Ne.symm ne)]
      exact h
    · exact cf_keep r _ _ (fun y hy => hn y (List.mem_cons_of_mem _ hy)) h
/-- the context of such a body, at its entry -/
def scx (CX : CXT) (P : Program) (w : World) (K : PySem.W.Frag) (mg : Str → Option Value) (base : Heap) (N : List Str) (qual : Str) (scope : Scope) (f cda cc : Addr) (A : Around) (outer : List Env) (s : Shared) (H : Hp) (E : XK) : Cx where
  prog := P
  w := w
  K := K
  mg := mg
  base := base
  A := A.deeper (envS qual scope s.heap.objs.size f cda cc)
  N := N
  s_0 := s
  H_0 := H
  env := envS qual scope s.heap.objs.size f cda cc
  outer := outer
  stack := envS qual scope s.heap.objs.size f cda cc :: outer
  ex := []
  calm := true
  fn := fun x => x != "__class__"
  pn := []
  xe := fun e s' => wpAny (model P w) (A.deeper (envS qual scope s.heap.objs.size f cda cc)) (leaving (envS qual scope s.heap.objs.size f cda cc) e) (fun _ s'' => CX outer H s E e s'') (fun e' s'' => CX outer H s E e' s'') s'
theorem inv_startS {CX : CXT} {P : Program} {w : World} {K : PySem.W.Frag} {mg : Str → Option Value} {base : Heap} {N ps : List Str} {qual : Str} {scope : Scope} {f cda cc : Addr} {occ : Obj} {A : Around} {outer : List Env} {s s1 : Shared} {H : Hp} {E : XK} {us : List Value} {vs : List V} {v0 : Option Value}
    (S : CScope N ps scope) (hd : A.handled = none) (e0 : Env0 P w K mg base A outer s H) (hl : vs.length = ps.length) (r : Vals vs us) (hcb : base.get? cc = some occ) (hcv : s.heap.IsCell cc v0)
    (x : InF s (envS qual scope s.heap.objs.size f cda cc) (bindL (envS qual scope s.heap.objs.size f cda cc).kindOf (ps.zip us) fun _ => none) (bindC (envS qual scope s.heap.objs.size f cda cc).kindOf (ps.zip us) fun _ => none) s1) :
    Inv (scx CX P w K mg base N qual scope f cda cc A outer s H E) [] (L2.start N vs) H s1 := by
  have hpl : ps.length ≤ N.length := by have := congrArg List.length S.pre; rw [List.length_take] at this; omega
  obtain ⟨h1, tk, rfl, hk⟩ := x.toInCall.done
  have hccS := e0.bs _ _ hcb
  have hlt : cc < s.heap.objs.size := Heap.lt_size hccS.1
  have noA : ∀ b : Addr, b ∉ (scx CX P w K mg base N qual scope f cda cc A outer s H E).ex := fun b z => absurd (show b ∈ ([] : List Addr) from z) (by simp)
  have ok := cf_ok scope.names (s.heap.push { cls := .type "frame", data := .dict #[] }) (s.heap.objs.size + 1) [("__class__", cc)] [("__class__", cc)] (by rw [Heap.size_push]; exact Nat.le_refl _) (fun p hp => .inl hp) (fun p hp => by
    rw [List.mem_singleton.mp hp, Heap.size_push]
    exact Nat.lt_succ_of_lt hlt) (List.pairwise_singleton _ _)
  rw [Heap.size_push] at ok
  have which : ∀ y c, (envS qual scope s.heap.objs.size f cda cc).cells.lookup y = some c → (y = "__class__" ∧ c = cc) ∨ s.heap.objs.size + 1 ≤ c := fun y c h => by
    rcases ok.1 (y, c) (PySem.mem_of_lookup h) with z | z
    · have e := List.mem_singleton.mp z
      cases e
      exact .inl ⟨rfl, rfl⟩
    · exact .inr z.2
  refine ⟨⟨e0.mod, S.kind, rfl, rfl, Nat.le_refl _, fun y z c h1 h2 => ?_, fun y hy => ?_, fun y c hf h => ?_, fun _ => hd, Around.frames_deeper e0.frames, .inr ⟨rfl, rfl⟩, fun b z => absurd z (noA b), e0.bs, e0.bsz, fun b _ _ => noA b, fun b z => absurd z (noA b), e0.funs, e0.frf⟩,
    rfl, e0.bare, Un.kept hk, ⟨_, x.toInCall.ns, fun i y v h1 h2 h3 => ?_⟩, fun y c h => ?_, e0.hok.fresh (Nat.le_refl _), fun y c h => ?_, fun p hp => absurd (show p ∈ ([] : List (Addr × Obj)) from hp) (by simp), e0.hok.kept hk, ?_⟩
  · exact PySem.name_of_addr x.apart (PySem.mem_of_lookup h1) (PySem.mem_of_lookup h2)
  · have hy : scope.names.lookup y = some .cell ∨ scope.names.lookup y = some .free := hy
    rcases hy with hy | hy
    · exact Option.isSome_iff_exists.mp (PySem.W.cellsFrom_some scope.names _ _ (.inl hy))
    · have e := S.free _ (PySem.mem_of_lookup hy) rfl
      have e : y = "__class__" := e
      subst e
      exact ⟨cc, cf_keep _ _ _ S.nown (by simp [List.lookup])⟩
  · rcases which y c h with ⟨rfl, _⟩ | z
    · have hf : (("__class__" : Str) != "__class__") = true := hf
      simp at hf
    · exact Nat.le_of_succ_le z
  · have hi : i < vs.length := by
      unfold L2.start at h2
      by_cases hi : i < vs.length
      · exact hi
      · rw [List.getElem?_append_right (by simpa using hi)] at h2
        rw [List.getElem?_replicate] at h2
        split at h2 <;> cases h2
    have ha : vs[i]? = some v := by
      unfold L2.start at h2
      rw [List.getElem?_append_left (by simpa using hi), List.getElem?_map] at h2
      cases e : vs[i]? with
      | none => rw [e] at h2; cases h2
      | some a => rw [e] at h2; cases h2; rfl
    obtain ⟨u, hu, rv⟩ := r.get ha
    have hp : ps[i]? = some y := by
      rw [← S.pre, List.getElem?_take_of_lt (by omega)]
      exact h1
    have ndP : ps.Nodup := by rw [← S.pre]; exact S.nd.sublist (List.take_sublist _ _)
    refine ⟨u, rv, ?_⟩
    rcases S.par y (List.mem_of_getElem? hp) with k | k
    · exact .inl ⟨k, bindL_get ndP hp hu k⟩
    · obtain ⟨c, e⟩ := Option.isSome_iff_exists.mp (PySem.W.cellsFrom_some scope.names (s.heap.objs.size + 1) [("__class__", cc)] (.inl k))
      refine .inr ⟨.inl k, c, e, ?_⟩
      have q := (x.own y c k e).1
      rw [bindC_get ndP hp hu (by show scope.names.lookup y ≠ _; rw [k]; decide)] at q
      exact q
  · rcases which y c h with ⟨_, rfl⟩ | z
    · obtain ⟨o, ho, hdat⟩ := hcv
      exact ⟨v0, o, hk _ _ ho, hdat⟩
    · exact x.all y c h
  · rcases which y c h with ⟨_, rfl⟩ | z
    · exact hccS.2
    · exact e0.hok.fresh (Nat.le_of_succ_le z)
  · unfold L2.start
    show _ = N.length
    rw [List.length_append, List.length_map, List.length_replicate]
    omega
end WW

set_option Elab.async false
set_option linter.all false
set_option maxRecDepth 100000
set_option maxHeartbeats 4000000
namespace WW
open PySem PySem.Spec PyProof.Rows L2
/-! ### super().__init__(..) of an own class -/
/-- the rest u behind it; the parent's __init__ keeps sp -/
def tSupO (C : Addr) (sp : Sp) (ta : TA) (u : TS) : TS := fun D σ H => ∃ (x dx : Addr) (fs : List (Str × V)), σ[0]? = some (some (.ref x)) ∧ H x = some (.ins C dx fs) ∧ ta σ H fun vs H1 => sp (.ref x :: vs) H1 (fun _ H2 => u D σ H2) E0
section
variable {X : Cx} {f cda cc C B g : Addr} {fdg : FuncData} {psg : List Str} {sp : Sp} {k : Nat}
theorem pat_supO {body : List Stmt} {p0 p1 p2 pos pos' : Pos} {e : Expr} {es : List Expr} {rest : List Stmt} {ta : TA} {u : TS} {pl : Sem Bool} (T : SupTxt X.prog X.K X.mg f cda cc C) (S : SupX X f cda cc) (hsub : PySem.W.mroIn X.K C (.ref C) = some true)
    (hm : PySem.W.ks_superIn X.K C C "__init__" = some (some (.ref g))) (hfi : PySem.W.fnIn X.K g = true) (hti : PySem.W.typeIn X.K (.ref g) = some (.type "function")) (F : FnOk X.prog X.w X.K X.mg X.base CX0 k g fdg psg sp) (hR : Room k X.A) (hb : Binds X.K fdg psg [])
    (ha : PA X (e :: es) ta) (hr : PAt X (.func body X.env) rest u)
    (he : starEach (e :: es) X.env = (false, eval e X.env) :: starEach es X.env := by rfl) (hpl : (backTo pos (starEach es X.env)).any (·.1) = false := by rfl)
    (ht : eval (.Call (.Attribute (.Call (.Name "super" p0) [] [] p1) "__init__" p2) (e :: es) [] pos) X.env = (do
      let ov ← attributeBase (.Call (.Name "super" p0) [] [] p1) "__init__" X.env (eval (.Call (.Name "super" p0) [] [] p1) X.env)
      standAt p2.atName
      let (f, first) ← holding [ov] (getMethod ov "__init__" pl)
      callWith pos f first (backTo pos (starEach (e :: es) X.env)) []) := by rfl)
    (hs : swapsWith (.Call (.Attribute (.Call (.Name "super" p0) [] [] p1) "__init__" p2) (e :: es) [] pos) none pos'.line X.env = pure false := by rfl) :
    PAt X (.func body X.env) (.Expr (.Call (.Attribute (.Call (.Name "super" p0) [] [] p1) "__init__" p2) (e :: es) [] pos) pos' :: rest) (tSupO C sp ta u) := by
  refine ⟨fun pins s σ H D I q => ?_⟩
  obtain ⟨a, dx, fs, h0, ea, q⟩ := q
  obtain ⟨mA, O, _⟩ := ins_get I.hok ea
  obtain ⟨od, J, _⟩ := O.look
  refine PySem.ks_wpAt_execs_cons (PySem.ks_wpAt_Expr_any ?_ I.quiet hs)
  refine PySem.ks_wpAt_MethodCall (pl := pl) ?_ ht
  refine sup_node T S I h0 J hsub (by decide) fun so s1 I1 k1 => ?_
  have KX := I1.kIn
  obtain ⟨mA1, O1, _⟩ := ins_get I1.hok ea
  obtain ⟨od1, J1, _⟩ := O1.look
  cases hc : PySem.W.clsIn X.K C with
  | none =>
    unfold PySem.W.ks_superIn at hm
    rw [hc] at hm
    cases hm
  | some cd =>
    unfold PySem.W.ks_superIn at hm
    rw [hc] at hm
    have hso := ClX.pin_at I1
    have hne := PySem.W.ks_ne KX J1 hc
    have hop := PySem.W.looks_opaque (M := model X.prog X.w) (C := C) KX T.opq
    have hmro : PySem.W.Looks (model X.prog X.w) s1.heap (mroOf (.ref C)) cd.mro := fun A Q E s k q => wpAny_bind ((PySem.W.looks_clsIn KX hc) A _ E s k (wpAny_pure q))
    obtain ⟨of, hgo, hgc⟩ : ∃ of, s1.heap.get? g = some of ∧ of.cls = .type "function" := by
      unfold PySem.W.typeIn at hti
      simp only at hti
      cases hl : X.K.lookup g with
      | none =>
        rw [hl] at hti
        cases hti
      | some o =>
        rw [hl] at hti
        exact ⟨o, KX _ _ hl, by simpa using hti⟩
    obtain ⟨hp, gg, d, tk, os⟩ := s1
    refine PySem.ks_wpAny_getMethod_super hso hop hmro rfl KX hm hgo hgc hne (by decide) ?_
    have I2 : Inv X ((hp.objs.size, { cls := .type "method", data := .fields #[.ref g, .ref a] }) :: (so, PySem.W.ks_superObj C a C) :: pins) σ H ⟨hp.push { cls := .type "method", data := .fields #[.ref g, .ref a] }, gg, d, tk + 1, os⟩ :=
      ClX.pin_new (t' := tk + 1) I1 (fun b o z => Heap.get?_push_of_some _ z) (Nat.le_refl _) (Heap.get?_push_at rfl rfl) (fun v z => by cases z)
    show wpAny _ _ (callWith pos (.ref hp.objs.size) [] (backTo pos (starEach (e :: es) X.env)) []) _ _ _
    rw [he]
    refine PySem.W.callWith_of (P := PySem.W.MethP X.K hp.objs.size g (.ref a)) (by show ((false || (backTo pos (starEach es X.env)).any (·.1)) || _) = false; rw [hpl]; rfl) (PySem.W.keeps_M hfi) ?_
    refine PySem.Calls.evalArgs_plain ?_
    have hrun := ha.run pos _ _ σ H _ I2 q
    rw [he] at hrun
    refine thn hrun fun us s3 ⟨vs, H3, I3, r3, q3⟩ => ⟨⟨ClX.pin_at I3, I3.kIn⟩, ?_⟩
    show wpAny _ _ (call (.ref hp.objs.size) us) _ _ _
    have hl : (Value.ref a :: us).length = psg.length := by
      have := F.len _ _ _ _ q3
      rw [← this, List.length_cons, List.length_cons, Paired.length r3]
    have bb := hb s3 (.ref a :: us) I3.kIn (by rw [List.append_nil]; exact hl)
    rw [List.append_nil] at bb
    refine wpAny_call (PySem.W.method_call (ClX.pin_at I3) (codeAny_mono (F.run X.A X.stack s3 H3 ⟨.ref a :: us, []⟩ (.ref a :: us) (.ref a :: vs) _ E0 hR I3.env0 bb (.cons rfl r3) q3) fun r s' hq => ?_))
    cases r with
    | error e => exact hq.elim
    | ok fl =>
      cases fl with
      | ret u =>
        obtain ⟨v, H4, I4, _, q4⟩ := I3.after hq
        exact hr.run pins s' σ H4 D (ClX.unpin (ClX.unpin I4)) q4
      | next => exact False.elim hq
      | brk => exact False.elim hq
      | cont => exact False.elim hq
end
/-! ### a def that says super() and has own cells keeps its promise -/
theorem fn_supC {CX : CXT} {P : Program} {w : World} {K : PySem.W.Frag} {mg : Str → Option Value} {base : Heap} {k : Nat} {f cda cc D : Addr} {name qual : Str} {params : Arguments} {body : List Stmt} {scope : Scope} {doc pm ct oc : Value} {od : Option Addr}
    {osl : Array (Option Value)} {N ps : List Str} {sp : Sp} {cl cld csl} (lk : K.lookup f = some ⟨oc, od, .func (PySem.W.fnX name qual params body scope [("__class__", cc)] .none .none doc pm none (.ref cda) ct), osl⟩) (hcd : PySem.W.codeIn K (.ref cda) qual = true)
    (hcell : K.lookup cc = some ⟨cl, cld, .cell (some (.ref D)), csl⟩) (S : CScope N ps scope)
    (len : ∀ vs H Q E, sp vs H Q E → vs.length = ps.length)
    (hbody : ∀ (A : Around) (outer : List Env) (s : Shared) (H : Hp) (vs : List V) (Q : VK) (E : XK), Room k (A.deeper (envS qual scope s.heap.objs.size f cda cc)) → sp vs H Q E →
      ∃ t, PAt (scx CX P w K mg base N qual scope f cda cc A outer s H E) (.func body (envS qual scope s.heap.objs.size f cda cc)) body t ∧ t { nx := fun _ H' => Q .non H', rt := Q } (L2.start N vs) H) :
    FnOk P w K mg base CX (k + 1) f (PySem.W.fnX name qual params body scope [("__class__", cc)] .none .none doc pm none (.ref cda) ct) ps sp := by
  refine ⟨len, fun A outer s H args us vs Q E hr e0 hb r hsp => ?_⟩
  have hl := len _ _ _ _ hsp
  have KX : K.In s.heap := e0.mod.kin.keeps fun b o e => (e0.bs b o e).1
  have lim : s.heap.NoLimit := e0.mod.nolimit.keeps fun b o e => (e0.bs b o e).1
  refine codeAny_call_function (fd := PySem.W.fnX name qual params body scope [("__class__", cc)] .none .none doc pm none (.ref cda) ct) (body := body) hr.depth (KX _ _ lk) rfl S.co S.gen rfl (PySem.W.codeRec_of KX hcd) (hb _ _ _ _ ?_)
  have hcc := KX _ _ hcell
  refine newEnvF (s := { s with toks := s.toks }) (scope := scope) (globals := mainGlobals) (binds := ps.zip us) (qual := qual ++ ".<locals>.") (func := some f) (code := .ref cda) (builtins := builtinsNs) (cc := cc) S.kind S.cls hcc rfl (fun x hx => ?_) (fun env eenv s1 x => ?_)
  · rcases S.par x.1 (List.of_mem_zip hx).1 with z | z
    · exact .inl z
    · exact .inr ⟨z, PySem.W.cellsFrom_some scope.names _ _ (.inl z)⟩
  · have ee : env = envS qual scope s.heap.objs.size f cda cc := eenv
    subst ee
    obtain ⟨t, ht, hq⟩ := hbody A outer s H vs Q E (hr.deeper _) hsp
    have I : Inv (scx CX P w K mg base N qual scope f cda cc A outer s H E) [] (L2.start N vs) H s1 := inv_startS (v0 := some (.ref D)) S hr.hd e0 hl r (e0.mod.kin _ _ hcell) ⟨_, hcc, rfl⟩ x
    refine ⟨lim.keeps x.toInCall.keep, PySem.ks_codeAny_funcAt ?_⟩
    refine PySem.ks_wpAt_mono (ht.run [] _ (L2.start N vs) H _ I hq) (fun fl s' hs => ?_) fun e s' hs => hs
    have fin : ∀ {σ' : L2.St} {H' : Hp} {v : V} {u : Value}, Inv (scx CX P w K mg base N qual scope f cda cc A outer s H E) [] σ' H' s' → L2.RelV v u → Q v H' → CE outer P w H s Q u s' :=
      fun {σ' H' v u} J rv q => ⟨v, H', J.os, J.bare, J.base, J.hok, rv, q⟩
    cases fl with
    | ret u =>
      obtain ⟨v, σ', H', J, rv, q⟩ := hs
      exact fin J rv q
    | next =>
      obtain ⟨σ', H', J, q⟩ := hs
      exact fin (v := V.non) (u := Value.none) J rfl q
    | brk =>
      obtain ⟨_, _, _, q⟩ := hs
      exact False.elim q
    | cont =>
      obtain ⟨_, _, _, q⟩ := hs
      exact False.elim q
end WW

set_option Elab.async false
set_option linter.all false
set_option maxRecDepth 100000
set_option maxHeartbeats 4000000
namespace WW
open PySem PySem.Spec PyProof.Rows L2
def topS (i : Nat) : Stmt := PySem.Challenge.pw_watchedworks_k20_instruments_and_their_a.main.body.getD i (.Pass ⟨0, 0, 0, 0⟩)
structure Bl (mg : Str → Option Value) : Prop where
  abs : mg "abs" = none
  int : mg "int" = none
  len : mg "len" = none
  max : mg "max" = none
  range : mg "range" = none
  tuple : mg "tuple" = none
  list : mg "list" = none
  str : mg "str" = none
  bool : mg "bool" = none
  isinstance : mg "isinstance" = none
  all : mg "all" = none
  sorted : mg "sorted" = none
  enumerate : mg "enumerate" = none

/-! ### the pool of a law's draws -/
structure Pool (S H : Hp) (p : Addr) : Prop where
  ss : Same S H
  np : S p = none
  at_ : ∃ (g s : Addr) (cur cnt : Int) (gs ns : List Int), H p = some (.lst [.ref g, .ref s, .int cur, .int cnt]) ∧ S g = some (.lst (gs.map V.int)) ∧ S s = some (.lst (ns.map V.int)) ∧ gs.length ≤ 63 ∧ ns.length ≤ 63
theorem Pool.has {S H : Hp} {p : Addr} (P : Pool S H p) : H p ≠ none := by
  obtain ⟨_, _, _, _, _, _, _, _, h, _⟩ := P
  rw [h]
  intro z
  cases z
/-- a new stable object -/
theorem Pool.new {S H : Hp} {p a : Addr} {o : HO} (P : Pool S H p) (n : H a = none) : Pool (upd S a o) (upd H a o) p := by
  have npa : p ≠ a := fun q => P.has (by rw [q]; exact n)
  have ns : S a = none := P.ss.free n
  obtain ⟨ss, np, g, sm, cur, cnt, gs, ns', hp, hg, hs, lg, ls⟩ := P
  exact ⟨same_new ss, by rw [upd_ne npa]; exact np, g, sm, cur, cnt, gs, ns', by rw [upd_ne npa]; exact hp, by rw [upd_ne (ne_of_none hg ns)]; exact hg, by rw [upd_ne (ne_of_none hs ns)]; exact hs, lg, ls⟩
/-- an object that is not stable is written -/
theorem Pool.put {S H : Hp} {p a : Addr} {o : HO} (P : Pool S H p) (n : S a = none) (npa : a ≠ p) : Pool S (upd H a o) p := by
  obtain ⟨ss, np, g, sm, cur, cnt, gs, ns', hp, hg, hs, lg, ls⟩ := P
  exact ⟨same_put ss n, np, g, sm, cur, cnt, gs, ns', by rw [upd_ne npa.symm]; exact hp, hg, hs, lg, ls⟩
theorem Pool.fix {S H : Hp} {p a : Addr} {o : HO} (P : Pool S H p) (h : H a = some o) (n : S a = none) (npa : a ≠ p) : Pool (upd S a o) H p := by
  obtain ⟨ss, np, g, sm, cur, cnt, gs, ns', hp, hg, hs, lg, ls⟩ := P
  exact ⟨same_fix ss h, by rw [upd_ne npa.symm]; exact np, g, sm, cur, cnt, gs, ns', hp, by rw [upd_ne (ne_of_none hg n)]; exact hg, by rw [upd_ne (ne_of_none hs n)]; exact hs, lg, ls⟩
theorem Pool.same {S H H2 : Hp} {p : Addr} (P : Pool S H p) (s : Same H H2) : Pool S H2 p := by
  obtain ⟨ss, np, g, sm, cur, cnt, gs, ns', hp, hg, hs, lg, ls⟩ := P
  exact ⟨ss.trans s, np, g, sm, cur, cnt, gs, ns', s _ _ hp, hg, hs, lg, ls⟩
section
variable {P : Program} {w : World} {K : PySem.W.Frag} {mg : Str → Option Value} {base : Heap} {f : Addr} {fd : FuncData}
abbrev sLdraw : Stmt := topS 25
abbrev nLdraw : List Str := ["_law_pool_here", "_law_many", "_law_great", "_law_digit", "_law_seed", "_law_number"]
theorem scLdraw : FnScope nLdraw ["_law_pool_here", "_law_many"] (defScope sLdraw) := ⟨rfl, rfl, rfl, by decide +kernel, rfl, by decide +kernel, by decide +kernel⟩
def spDraw : Sp := fun vs H Q _ => ∃ (p : Addr) (S : Hp) (n : Int), vs = [.ref p, .int n] ∧ 0 < n ∧ n < 1000000 ∧ Pool S H p ∧
  ∀ (d : Int) (S' H' : Hp), Pool S' H' p → Gr p S H S' H' → 0 ≤ d → d < n → Q (.int d) H'
theorem ok_draw (D : Df K mg "_law_draw" sLdraw ["_law_pool_here", "_law_many"] f fd) (T : Bl mg) : FnOk P w K mg base CX0 1 f fd ["_law_pool_here", "_law_many"] spDraw := by
  refine D.fn.ok scLdraw (fun vs H Q E h => ?_) (fun cdv A outer s H vs Q E hr h => ?_)
  · obtain ⟨p, S, n, rfl, _⟩ := h
    rfl
  · obtain ⟨p, S, n, rfl, n0, n1, ⟨ss, np, g, sm, cur, cnt, gs, ns, hp, hg, hs, lg, ls⟩, q⟩ := h
    refine ⟨_, (C8.pss_cut (ps_if (PW.pt (pw_and (pt_cmpR op_eq (pe_ix ix_list (pv 0) pe_int (fun _ _ => rfl)) pe_int (nomark _)) (pw_and1 (pt_cmpR op_gt (pe_callB call_len (by rfl) T.len (by decide +kernel) (pa_cons (pe_ix ix_list (pv 0) pe_int (fun _ _ => rfl)) pa_nil)) pe_int (nomark _))))) (pss_cons (ps_set (i := 2) scLdraw.nd rfl (Or.inl rfl) (pe_ix ix_list (pv 0) pe_int (fun _ _ => rfl)))
      (pss_one (ps_asg (pe_tup (pa_cons (pe_ix ix_list (pv 2) pe_int (fun _ _ => rfl)) (pa_cons (pe_slice sl_list (pv 2) (po_some pe_int) po_none) pa_nil))) (pg_tup rfl (pgs_cons (pg_sub (pv 0) pe_int set_list) (pgs_cons (pg_sub (pv 0) pe_int set_list) pgs_nil)))))) pss_nil)
      (pss_cons (ps_if (pt_cmpR op_gt (pe_ix ix_list (pv 0) pe_int (fun _ _ => rfl)) pe_int (nomark _)) (pss_cons (ps_asg (pe_tup (pa_cons (pe_op op_mod (pe_callTy call_int1 (by rfl) T.int (by decide +kernel) (pa_cons (pe_ix ix_list (pv 0) pe_int (fun _ _ => rfl)) pa_nil)) (pv 1)) (pa_cons (pe_op op_fdiv (pe_ix ix_list (pv 0) pe_int (fun _ _ => rfl)) (pv 1)) pa_nil))) (pg_tup rfl (pgs_cons (pg_name (i := 3) scLdraw.nd rfl (Or.inl rfl)) (pgs_cons (pg_sub (pv 0) pe_int set_list) pgs_nil))))
      (pss_one (ps_ret (pv 3)))) pss_nil)
      (pss_cons (ps_asg (pe_op op_add (pe_ix ix_list (pv 0) pe_int (fun _ _ => rfl)) pe_int) (pg_sub (pv 0) pe_int set_list))
      (pss_cons (ps_set (i := 4) scLdraw.nd rfl (Or.inl rfl) (pe_ix ix_list (pe_op op_cat (pe_ix ix_list (pv 0) pe_int (fun _ _ => rfl)) (pe_lst (pa_cons pe_int pa_nil))) (pe_op op_mod (pe_callTy call_int1 (by rfl) T.int (by decide +kernel) (pa_cons (pe_ix ix_list (pv 0) pe_int (fun _ _ => rfl)) pa_nil)) (pe_callB (call_max2 rfl) (by rfl) T.max (by decide +kernel) (pa_cons pe_int (pa_cons (pe_callB call_len (by rfl) T.len (by decide +kernel) (pa_cons (pe_ix ix_list (pv 0) pe_int (fun _ _ => rfl)) pa_nil)) pa_nil)))) (fun _ _ => rfl)))
      (pss_cons (ps_set (i := 5) scLdraw.nd rfl (Or.inl rfl) (pe_op op_mod (pe_callTy call_int1 (by rfl) T.int (by decide +kernel) (pa_cons (pe_op op_mul (pe_op op_add (pe_op op_add (pv 4) (pe_op op_mul pe_int (pe_ix ix_list (pv 0) pe_int (fun _ _ => rfl)))) pe_int) pe_int) pa_nil)) pe_int))
      (pss_cons (ps_set (i := 5) scLdraw.nd rfl (Or.inl rfl) (pe_op op_mod (pe_callTy call_int1 (by rfl) T.int (by decide +kernel) (pa_cons (pe_op op_mul (pv 5) (pe_op op_add (pe_op op_fdiv (pv 5) pe_int) pe_int)) pa_nil)) pe_int))
      (pss_cons (ps_set (i := 5) scLdraw.nd rfl (Or.inl rfl) (pe_op op_mod (pe_callTy call_int1 (by rfl) T.int (by decide +kernel) (pa_cons (pe_op op_mul (pv 5) (pe_op op_add (pe_op op_fdiv (pv 5) pe_int) pe_int)) pa_nil)) pe_int))
      (pss_one (ps_ret (pe_op op_mod (pe_callTy call_int1 (by rfl) T.int (by decide +kernel) (pa_cons (pe_op op_fdiv (pv 5) pe_int) pa_nil)) (pv 1))))))))))), ?_⟩
    refine ⟨fun σ H1 => ∃ S1 v2, σ = [some (.ref p), some (.int n), v2, none, none, none] ∧ Pool S1 H1 p ∧ Gr p S H S1 H1, ?_, ?_⟩
    · refine ⟨_, rfl, p, _, 2, _, rfl, rfl, SqL.of hp, atI_nat (j := 2) rfl, rfl, _, rfl, ite2 (fun c => ?_) (fun c => ?_)⟩
      · refine ⟨_, rfl, p, _, 0, _, rfl, rfl, SqL.of hp, atI_nat (j := 0) rfl, _, _, rfl, .inl ⟨_, SqL.of (ss _ _ hg), rfl⟩, _, _, rfl, rfl, _, rfl, ite2 (fun c2 => ?_) (fun c2 => ?_)⟩
        · refine ⟨_, rfl, p, _, 0, _, rfl, rfl, SqL.of hp, atI_nat (j := 0) rfl, ?_⟩
          obtain ⟨x, r, rfl⟩ : ∃ x r, gs = x :: r := by
            cases gs with
            | nil => cases c2
            | cons x r => exact ⟨x, r, rfl⟩
          have P0 : Pool S H p := ⟨ss, np, g, sm, cur, cnt, _, ns, hp, hg, hs, lg, ls⟩
          have hg' := ss _ _ hg
          refine ⟨_, rfl, g, _, 0, _, rfl, rfl, SqL.of hg', atI_nat (j := 0) rfl, _, rfl, 1, rfl, g, _, rfl, SqL.of hg', fun l hl => ?_⟩
          have P1 := P0.new (o := .lst (cutV (List.map V.int (x :: r)) (some 1) none)) hl
          refine ⟨by show 2 ≤ sizeLine; decide, fun t ht => ?_⟩
          have P2 := P1.new (o := .tup [V.int x, V.ref l]) ht
          have npl : p ≠ l := fun z => P0.has (by rw [z]; exact hl)
          have npt : p ≠ t := fun z => P1.has (by rw [z]; exact ht)
          have nlt : l ≠ t := fun z => by rw [← z, upd_same] at ht; cases ht
          have hp2 : upd (upd H l (.lst (cutV (List.map V.int (x :: r)) (some 1) none))) t (.tup [V.int x, V.ref l]) p = some (.lst [.ref g, .ref sm, .int cur, .int cnt]) := by rw [upd_ne npt, upd_ne npl]; exact hp
          refine ⟨t, _, rfl, SqT.of upd_same, rfl, _, _, rfl, ?_⟩
          refine ⟨_, rfl, p, _, 2, 2, rfl, rfl, hp2, rfl, ?_⟩
          refine ⟨_, _, rfl, _, rfl, p, _, 0, 0, rfl, rfl, upd_same, rfl, ?_⟩
          refine ⟨rfl, upd (upd S l (.lst (cutV (List.map V.int (x :: r)) (some 1) none))) t (.tup [V.int x, V.ref l]), some (.ref g), rfl, ?_, ((Gr.refl.new ss hl).new P1.ss ht).putP.putP⟩
          refine ⟨same_put (same_put P2.ss P2.np) P2.np, P2.np, l, sm, x, cnt, r, ns, by rw [upd_same]; rfl, by rw [upd_ne nlt, upd_same, show (1 : Int) = ((1 : Nat) : Int) from rfl, cut_from]; rfl, ?_, by simp at lg; omega, ls⟩
          rw [upd_ne (ne_of_none (same_upd (ss.free hl) _ _ hs) (P1.ss.free ht)), upd_ne (ne_of_none hs (ss.free hl))]
          exact hs
        · exact ⟨S, none, rfl, ⟨ss, np, g, sm, cur, cnt, gs, ns, hp, hg, hs, lg, ls⟩, Gr.refl⟩
      · exact ⟨S, none, rfl, ⟨ss, np, g, sm, cur, cnt, gs, ns, hp, hg, hs, lg, ls⟩, Gr.refl⟩
    · rintro σ H1 ⟨S1, v2, rfl, P1, g1⟩
      obtain ⟨ss, np, g, sm, cur, cnt, gs, ns, hp, hg, hs, lg, ls⟩ := id P1
      refine ⟨_, rfl, p, _, 2, _, rfl, rfl, SqL.of hp, atI_nat (j := 2) rfl, _, _, rfl, rfl, _, rfl, ite2 (fun c => ?_) (fun c => ?_)⟩
      · refine ⟨_, rfl, p, _, 2, _, rfl, rfl, SqL.of hp, atI_nat (j := 2) rfl, .inl ⟨_, rfl, _, rfl, _, _, rfl, rfl, n0, _, rfl, p, _, 2, _, rfl, rfl, SqL.of hp, atI_nat (j := 2) rfl, _, rfl, _, _, rfl, rfl, ⟨n0, by omega⟩, by show 2 ≤ sizeLine; decide, fun t ht => ?_⟩⟩
        have npt : p ≠ t := fun z => P1.has (by rw [z]; exact ht)
        have P2 := P1.new (o := .tup [V.int (cur % n), V.int (cur / n)]) ht
        refine ⟨t, _, rfl, SqT.of upd_same, rfl, _, _, rfl, _, _, rfl, _, rfl, p, _, 2, 2, rfl, rfl, (upd_ne npt).trans hp, rfl, rfl, _, rfl, ?_⟩
        refine q _ _ _ ?_ (g1.new ss ht).putP (Int.emod_nonneg _ (by omega)) (Int.emod_lt_of_pos _ n0)
        refine ⟨same_put P2.ss P2.np, P2.np, g, sm, cur / n, cnt, gs, ns, by rw [upd_same]; rfl, by rw [upd_ne (ne_of_none hg (ss.free ht))]; exact hg, by rw [upd_ne (ne_of_none hs (ss.free ht))]; exact hs, lg, ls⟩
      · refine ⟨_, rfl, p, _, 3, _, rfl, rfl, SqL.of hp, atI_nat (j := 3) rfl, _, _, rfl, rfl, _, rfl, p, _, 3, 3, rfl, rfl, hp, rfl, ?_⟩
        have Pa : Pool S1 (upd H1 p (.lst [.ref g, .ref sm, .int cur, .int (cnt + 1)])) p := ⟨same_put ss np, np, g, sm, cur, cnt + 1, gs, ns, upd_same, hg, hs, lg, ls⟩
        have ga : Gr p S H S1 (upd H1 p (.lst [.ref g, .ref sm, .int cur, .int (cnt + 1)])) := g1.putP
        show tSeq _ _ _ _ (upd H1 p (.lst [.ref g, .ref sm, .int cur, .int (cnt + 1)]))
        have ha : upd H1 p (.lst [.ref g, .ref sm, .int cur, .int (cnt + 1)]) p = some (.lst [.ref g, .ref sm, .int cur, .int (cnt + 1)]) := upd_same
        generalize upd H1 p (.lst [.ref g, .ref sm, .int cur, .int (cnt + 1)]) = Ha at Pa ga ha ⊢
        have hsa := Pa.ss _ _ hs
        refine ⟨_, rfl, p, _, 1, _, rfl, rfl, SqL.of ha, atI_nat (j := 1) rfl, by show 1 ≤ sizeLine; decide, fun b hb => ?_⟩
        have Pb := Pa.new (o := .lst [V.int 0]) hb
        have gb := ga.new (o := .lst [V.int 0]) Pa.ss hb
        have npb : p ≠ b := fun z => Pa.has (by rw [z]; exact hb)
        have hpb : upd Ha b (.lst [V.int 0]) p = some (.lst [.ref g, .ref sm, .int cur, .int (cnt + 1)]) := (upd_ne npb).trans ha
        have hsb : upd Ha b (.lst [V.int 0]) sm = some (.lst (ns.map V.int)) := (upd_ne (ne_of_none hsa hb)).trans hsa
        have hbb : upd Ha b (.lst [V.int 0]) b = some (.lst [V.int 0]) := upd_same
        generalize upd Ha b (.lst [V.int 0]) = Hb at Pb gb hpb hsb hbb ⊢
        refine ⟨sm, b, _, _, rfl, rfl, hsb, hbb, ?_, fun l hl => ?_⟩
        · rw [List.length_map]
          exact Nat.le_of_lt (small1000 (by show ns.length + 1 ≤ 1000; omega))
        have Pc := Pb.new (o := .lst (ns.map V.int ++ [V.int 0])) hl
        have gc := gb.new (o := .lst (ns.map V.int ++ [V.int 0])) Pb.ss hl
        have npl : p ≠ l := fun z => Pb.has (by rw [z]; exact hl)
        have hpc : upd Hb l (.lst (ns.map V.int ++ [V.int 0])) p = some (.lst [.ref g, .ref sm, .int cur, .int (cnt + 1)]) := (upd_ne npl).trans hpb
        have hsc : upd Hb l (.lst (ns.map V.int ++ [V.int 0])) sm = some (.lst (ns.map V.int)) := (upd_ne (ne_of_none hsb hl)).trans hsb
        have hlc : upd Hb l (.lst (ns.map V.int ++ [V.int 0])) l = some (.lst (ns.map V.int ++ [V.int 0])) := upd_same
        generalize upd Hb l (.lst (ns.map V.int ++ [V.int 0])) = Hc at Pc gc hpc hsc hlc ⊢
        refine ⟨_, rfl, p, _, 3, _, rfl, rfl, SqL.of hpc, atI_nat (j := 3) rfl, .inl ⟨_, rfl, _, rfl, p, _, 1, _, rfl, rfl, SqL.of hpc, atI_nat (j := 1) rfl, _, _, rfl, .inl ⟨_, SqL.of hsc, rfl⟩, _, _, rfl, _, _, rfl, rfl, ?_, ?_⟩⟩
        · show (0 : Int) < if ((ns.map V.int).length : Int) > 1 then ((ns.map V.int).length : Int) else 1
          split <;> omega
        obtain ⟨z, hz⟩ : ∃ z : Int, atI (ns.map V.int ++ [V.int 0]) ((cnt + 1) % (if ((ns.map V.int).length : Int) > 1 then ((ns.map V.int).length : Int) else 1)) = some (.int z) := by
          have e : ns.map V.int ++ [V.int 0] = (ns ++ [0]).map V.int := by simp
          obtain ⟨j, hj, hjl⟩ : ∃ j : Nat, (cnt + 1) % (if ((ns.map V.int).length : Int) > 1 then ((ns.map V.int).length : Int) else 1) = (j : Int) ∧ j < ns.length + 1 := by
            rw [List.length_map]
            have hm : (0 : Int) < if (ns.length : Int) > 1 then (ns.length : Int) else 1 := by split <;> omega
            have hm2 : (if (ns.length : Int) > 1 then (ns.length : Int) else 1) ≤ ns.length + 1 := by split <;> omega
            have h1 := Int.emod_nonneg (cnt + 1) (b := if (ns.length : Int) > 1 then (ns.length : Int) else 1) (by omega)
            have h2 := Int.emod_lt_of_pos (cnt + 1) hm
            exact ⟨((cnt + 1) % (if (ns.length : Int) > 1 then (ns.length : Int) else 1)).toNat, by omega, by omega⟩
          rw [hj, e]
          have hl2 : j < (ns ++ [0]).length := by simp; omega
          exact ⟨(ns ++ [0])[j], atI_nat (by rw [List.getElem?_map, List.getElem?_eq_getElem hl2]; rfl)⟩
        refine ⟨l, _, _, _, rfl, rfl, SqL.of hlc, hz, ?_⟩
        refine ⟨_, rfl, _, rfl, p, _, 3, _, rfl, rfl, SqL.of hpc, atI_nat (j := 3) rfl, _, _, rfl, rfl, .inl ⟨by decide, by decide⟩, _, _, rfl, rfl, _, _, rfl, rfl, _, _, rfl, rfl, .inr ⟨by decide, by decide⟩, .inl ⟨_, rfl, _, _, rfl, rfl, by show (0 : Int) < 2147483647; decide, ?_⟩⟩
        have y0 := Int.emod_nonneg ((z + 7919 * (cnt + 1) + 1) * 48271) (b := 2147483647) (by decide)
        have y1 := Int.emod_lt_of_pos ((z + 7919 * (cnt + 1) + 1) * 48271) (b := 2147483647) (by decide)
        show tSeq _ _ _ [some (.ref p), some (.int n), v2, none, some (.int z), some (.int (((z + 7919 * (cnt + 1) + 1) * 48271) % 2147483647))] Hc
        generalize ((z + 7919 * (cnt + 1) + 1) * 48271) % 2147483647 = y at y0 y1 ⊢
        refine ⟨_, rfl, _, rfl, _, _, rfl, rfl, ⟨by decide, by decide⟩, _, _, rfl, rfl, _, _, rfl, rfl, .inl ⟨by omega, by omega⟩, .inl ⟨_, rfl, _, _, rfl, rfl, by show (0 : Int) < 2147483647; decide, ?_⟩⟩
        have x0 := Int.emod_nonneg (y * (y / 1009 + 69621)) (b := 2147483647) (by decide)
        have x1 := Int.emod_lt_of_pos (y * (y / 1009 + 69621)) (b := 2147483647) (by decide)
        show tSeq _ _ _ [some (.ref p), some (.int n), v2, none, some (.int z), some (.int ((y * (y / 1009 + 69621)) % 2147483647))] Hc
        generalize (y * (y / 1009 + 69621)) % 2147483647 = x at x0 x1 ⊢
        refine ⟨_, rfl, _, rfl, _, _, rfl, rfl, ⟨by decide, by decide⟩, _, _, rfl, rfl, _, _, rfl, rfl, .inl ⟨by omega, by omega⟩, .inl ⟨_, rfl, _, _, rfl, rfl, by show (0 : Int) < 2147483399; decide, ?_⟩⟩
        refine ⟨_, rfl, _, _, rfl, rfl, ⟨by decide, by decide⟩, .inl ⟨_, rfl, _, rfl, _, _, rfl, rfl, n0, ?_⟩⟩
        exact q _ _ _ Pc gc (Int.emod_nonneg _ (by omega)) (Int.emod_lt_of_pos _ n0)
end
end WW

set_option Elab.async false
set_option linter.all false
set_option maxRecDepth 100000
set_option maxHeartbeats 4000000
namespace WW
open PySem PySem.Spec PyProof.Rows L2
section
variable {P : Program} {w : World} {K : PySem.W.Frag} {mg : Str → Option Value} {base : Heap} {f : Addr} {fd : FuncData}
abbrev sLpool : Stmt := topS 24
abbrev nLpool : List Str := ["_law_script", "_law_cells", "_law_great", "_law_small", "_law_cell"]
theorem scLpool : FnScope nLpool ["_law_script"] (defScope sLpool) := ⟨rfl, rfl, rfl, by decide +kernel, rfl, by decide +kernel, by decide +kernel⟩
def spPool (K : PySem.W.Frag) : Sp := fun vs H Q _ => ∃ (a : Addr) (ns : List Int), vs = [.ref a] ∧ SqL K H a (ns.map V.int) ∧ ns.length ≤ 63 ∧
  ∀ (p : Addr) (S' H' : Hp), Pool S' H' p → Same H S' → Q (.ref p) H'
def absI (v : V) : Option V := match v with
  | .int i => some (.int (if i < 0 then -i else i))
  | _ => none
def grI (v : V) : Option V := match v with
  | .int i => if decide ((10 : Int) ^ (18 : Int).toNat ≤ i) = true then some (.int i) else none
  | _ => none
def smI (v : V) : Option V := match v with
  | .int i => if decide (i < (10 : Int) ^ (18 : Int).toNat) = true then some (.int (i % 1000003)) else none
  | _ => none
def isI (v : V) : Prop := ∃ i, v = .int i
theorem ints_of : ∀ (xs : List V), (∀ v ∈ xs, isI v) → ∃ ns : List Int, xs = ns.map V.int
  | [], _ => ⟨[], rfl⟩
  | x :: r, h => by
    obtain ⟨i, rfl⟩ := h x (by simp)
    obtain ⟨ns, rfl⟩ := ints_of r fun v hv => h v (by simp [hv])
    exact ⟨i :: ns, rfl⟩
theorem fm_ints (g : V → Option V) (hg : ∀ v w, g v = some w → isI w) (xs : List V) : ∃ ns : List Int, xs.filterMap g = ns.map V.int ∧ ns.length ≤ xs.length := by
  obtain ⟨ns, h⟩ := ints_of (xs.filterMap g) fun v hv => by
    obtain ⟨a, _, h⟩ := List.mem_filterMap.mp hv
    exact hg a v h
  refine ⟨ns, h, ?_⟩
  have := List.length_filterMap_le g xs
  rw [h, List.length_map] at this
  exact this
theorem absI_i (v w : V) (h : absI v = some w) : isI w := by
  cases v <;> simp [absI] at h
  exact ⟨_, h.symm⟩
theorem grI_i (v w : V) (h : grI v = some w) : isI w := by
  cases v <;> simp [grI] at h
  exact ⟨_, h.2.symm⟩
theorem smI_i (v w : V) (h : smI v = some w) : isI w := by
  cases v <;> simp [smI] at h
  exact ⟨_, h.2.symm⟩
theorem ok_pool (D : Df K mg "_law_pool" sLpool ["_law_script"] f fd) (T : Bl mg) : FnOk P w K mg base CX0 1 f fd ["_law_script"] (spPool K) := by
  refine D.fn.ok scLpool (fun vs H Q E h => ?_) (fun cdv A outer s H vs Q E hr h => ?_)
  · obtain ⟨a, ns, rfl, _⟩ := h
    rfl
  · obtain ⟨a, ns, rfl, hS, hlen, q⟩ := h
    refine ⟨_, (pss_cons (ps_setLc (i := 1) (own := [("_law_cell", 4)]) rfl scLpool.nd rfl rfl (sw_true rfl rfl rfl (by decide +kernel)) (pi_list (pe_slice sl_list (pv 0) po_none (po_some pe_int))) (blkOk_by (own := [("_law_cell", 4)]) (N := nLpool) (sc := defScope sLpool) (by decide +kernel)) (fun _ _ _ _ _ => (pg_name (i := 4) scLpool.nd rfl (Or.inl rfl))) (fun _ _ _ _ _ => pts_nil) (fun _ _ _ _ _ => (pe_callB call_abs (by rfl) T.abs (by decide +kernel) (pa_cons (pe_callTy call_int1 (by rfl) T.int (by decide +kernel) (pa_cons (pv 4) pa_nil)) pa_nil))))
      (pss_cons (ps_setLc (i := 2) (own := [("_law_cell", 4)]) rfl scLpool.nd rfl rfl (sw_true rfl rfl rfl (by decide +kernel)) (pi_list (pv 1)) (blkOk_by (own := [("_law_cell", 4)]) (N := nLpool) (sc := defScope sLpool) (by decide +kernel)) (fun _ _ _ _ _ => (pg_name (i := 4) scLpool.nd rfl (Or.inl rfl))) (fun _ _ _ _ _ => (pts_one (pt_cmpR op_ge (pv 4) (pe_op op_pow pe_int pe_int) (nomark _)))) (fun _ _ _ _ _ => (pv 4)))
      (pss_cons (ps_setLc (i := 3) (own := [("_law_cell", 4)]) rfl scLpool.nd rfl rfl (sw_true rfl rfl rfl (by decide +kernel)) (pi_list (pv 1)) (blkOk_by (own := [("_law_cell", 4)]) (N := nLpool) (sc := defScope sLpool) (by decide +kernel)) (fun _ _ _ _ _ => (pg_name (i := 4) scLpool.nd rfl (Or.inl rfl))) (fun _ _ _ _ _ => (pts_one (pt_cmpR op_lt (pv 4) (pe_op op_pow pe_int pe_int) (nomark _)))) (fun _ _ _ _ _ => (pe_op op_mod (pe_callTy call_int1 (by rfl) T.int (by decide +kernel) (pa_cons (pv 4) pa_nil)) pe_int)))
      (pss_one (ps_ret (pe_lst (pa_cons (pv 2) (pa_cons (pv 3) (pa_cons pe_int (pa_cons pe_int pa_nil)))))))))), ?_⟩
    refine ⟨_, rfl, 63, rfl, a, _, rfl, hS, fun l hl => ?_⟩
    refine ⟨l, rfl, ⟨_, SqL.of upd_same⟩, fun D1 hD1 => lc_pure absI (SqL.of upd_same) ?_ (fun _ => rfl) (fun x H2 hx hs Q hq => ?_) hD1 (fun H2 s2 h2 => ?_)⟩
    · rw [show (63 : Int) = ((63 : Nat) : Int) from rfl, cut_to]
      simp
      omega
    · obtain ⟨i, rfl⟩ : isI x := by
        rw [show (63 : Int) = ((63 : Nat) : Int) from rfl, cut_to, ← List.map_take] at hx
        obtain ⟨i, _, rfl⟩ := List.mem_map.mp hx
        exact ⟨i, rfl⟩
      exact iteT (B := Q none H2) ⟨_, rfl, .inl ⟨_, rfl, _, rfl, hq _ (Same.refl _)⟩⟩
    obtain ⟨n1, e1, l1⟩ := fm_ints absI absI_i (cutV (ns.map V.int) none (some 63))
    have l1' : n1.length ≤ 63 := by
      rw [show (63 : Int) = ((63 : Nat) : Int) from rfl, cut_to, List.length_take, List.length_map] at l1
      omega
    rw [e1] at h2
    have s02 : Same H H2 := (same_upd hl).trans s2
    refine ⟨_, rfl, D1, rfl, ⟨_, SqL.of h2⟩, fun D2 hD2 => lc_pure grI (SqL.of h2) (by rw [List.length_map]; omega) (fun _ => rfl) (fun x H3 hx hs Q hq => ?_) hD2 (fun H3 s3 h3 => ?_)⟩
    · obtain ⟨i, _, rfl⟩ := List.mem_map.mp hx
      refine ⟨_, rfl, _, _, rfl, rfl, ⟨by decide, by decide, by decide⟩, _, _, rfl, rfl, _, rfl, ?_⟩
      refine ite2 (fun c => ⟨_, rfl, ?_⟩) (fun c => ?_)
      · have := hq H3 (Same.refl _)
        rw [show grI (V.int i) = some (V.int i) from if_pos c] at this
        exact this
      · have := hq H3 (Same.refl _)
        rw [show grI (V.int i) = none from if_neg c] at this
        exact this
    obtain ⟨n2, e2, l2⟩ := fm_ints grI grI_i (n1.map V.int)
    rw [e2] at h3
    rw [List.length_map] at l2
    have h13 := s3 _ _ h2
    refine ⟨_, rfl, D1, rfl, ⟨_, SqL.of h13⟩, fun D3 hD3 => lc_pure smI (SqL.of h13) (by rw [List.length_map]; omega) (fun _ => rfl) (fun x H4 hx hs Q hq => ?_) hD3 (fun H4 s4 h4 => ?_)⟩
    · obtain ⟨i, _, rfl⟩ := List.mem_map.mp hx
      refine ⟨_, rfl, _, _, rfl, rfl, ⟨by decide, by decide, by decide⟩, _, _, rfl, rfl, _, rfl, ?_⟩
      refine ite2 (fun c => ⟨_, rfl, .inl ⟨_, rfl, _, _, rfl, rfl, by show (0 : Int) < 1000003; decide, ?_⟩⟩) (fun c => ?_)
      · have := hq H4 (Same.refl _)
        rw [show smI (V.int i) = some (V.int (i % 1000003)) from if_pos c] at this
        exact this
      · have := hq H4 (Same.refl _)
        rw [show smI (V.int i) = none from if_neg c] at this
        exact this
    obtain ⟨n3, e3, l3⟩ := fm_ints smI smI_i (n1.map V.int)
    rw [e3] at h4
    rw [List.length_map] at l3
    refine ⟨_, rfl, _, rfl, by show 4 ≤ sizeLine; decide, fun p hp => ?_⟩
    refine q p H4 _ ⟨same_upd hp, hp, D2, D3, 0, 0, n2, n3, upd_same, s4 _ _ h3, h4, by omega, by omega⟩ (s02.trans (s3.trans s4))
end
end WW

set_option Elab.async false
set_option linter.all false
set_option maxRecDepth 100000
set_option maxHeartbeats 4000000
namespace WW
open PySem PySem.Spec PyProof.Rows L2
section
variable {P : Program} {w : World} {K : PySem.W.Frag} {mg : Str → Option Value} {base : Heap} {f fA : Addr} {fd fdA : FuncData}
abbrev sLpick : Stmt := topS 26
abbrev nLpick : List Str := ["_law_pool_here", "_law_items"]
theorem scLpick : FnScope nLpick ["_law_pool_here", "_law_items"] (defScope sLpick) := ⟨rfl, rfl, rfl, by decide +kernel, rfl, by decide +kernel, by decide +kernel⟩
def spPick : Sp := fun vs H Q _ => ∃ (p a : Addr) (S : Hp) (xs : List V), vs = [.ref p, .ref a] ∧ Pool S H p ∧ H a = some (.lst xs) ∧ a ≠ p ∧ 0 < xs.length ∧ xs.length < 1000 ∧
  ∀ (i : Nat) (v : V) (S' H' : Hp), xs[i]? = some v → Pool S' H' p → Gr p S H S' H' → Q v H'
theorem ok_pick (D : Df K mg "_law_pick" sLpick ["_law_pool_here", "_law_items"] f fd) (DLdraw : Df K mg "_law_draw" sLdraw ["_law_pool_here", "_law_many"] fA fdA) (T : Bl mg) : FnOk P w K mg base CX0 2 f fd ["_law_pool_here", "_law_items"] spPick := by
  have GLdraw : FnOk P w K mg base CX0 1 fA fdA ["_law_pool_here", "_law_many"] spDraw := ok_draw DLdraw T
  refine D.fn.ok scLpick (fun vs H Q E h => ?_) (fun cdv A outer s H vs Q E hr h => ?_)
  · obtain ⟨p, a, S, xs, rfl, _⟩ := h
    rfl
  · obtain ⟨p, a, S, xs, rfl, P0, ha, nap, l0, l1, q⟩ := h
    refine ⟨_, (pss_one (ps_ret (pe_ix ix_list (pv 1) (pe_df DLdraw GLdraw (hr.mono (by decide)) (pa_cons (pv 0) (pa_cons (pe_callB call_len (by rfl) T.len (by decide +kernel) (pa_cons (pv 1) pa_nil)) pa_nil))) (fun _ _ => rfl)))), ?_⟩
    refine ⟨_, rfl, _, rfl, _, rfl, _, _, rfl, .inl ⟨_, SqL.of ha, rfl⟩, p, S, _, rfl, by omega, by omega, P0, fun d S1 H1 P1 g1 d0 d1 => ?_⟩
    have hd : d.toNat < xs.length := by omega
    refine ⟨a, xs, d, xs[d.toNat], rfl, rfl, SqL.of (g1.rs _ _ nap ha), ?_, q _ _ _ _ (List.getElem?_eq_getElem hd) P1 g1⟩
    exact at_of (j := d.toNat) (by omega) (List.getElem?_eq_getElem hd)

/-! ### names -/
def smallS : Str := "abcdefghijklmnopqrstuvwxyz"
def NameOk (z : Str) : Prop := 1 ≤ z.length ∧ z.length ≤ 10 ∧ ∀ c ∈ z.cps.toList, c ∈ smallS.cps.toList
theorem smallS_len : smallS.cps.toList.length = 26 := by decide +kernel
theorem smallS_nd : smallS.cps.toList.Nodup := by decide +kernel
theorem inV_strs (z : Str) : ∀ ts : List Str, inV (.str z) (ts.map V.str) = decide (z ∈ ts)
  | [] => by simp [inV]
  | t :: r => by
    have ih := inV_strs z r
    unfold inV at ih ⊢
    rw [List.map_cons, List.any_cons, ih]
    have e : eqV (.str t) (.str z) = decide (z = t) := by
      show (t == z) = decide (z = t)
      by_cases h : z = t
      · subst h
        simp
      · rw [decide_eq_false h]
        exact beq_eq_false_iff_ne.mpr (fun q => h q.symm)
    rw [e]
    simp [Bool.decide_or]
theorem strs_flat : ∀ ts : List Str, (ts.map V.str).all flatV = true
  | [] => rfl
  | _ :: r => by
    rw [List.map_cons, List.all_cons, strs_flat r]
    rfl
theorem pigeon {α : Type} [DecidableEq α] : ∀ (cs ts : List α), cs.Nodup → (∀ c ∈ cs, c ∈ ts) → cs.length ≤ ts.length
  | [], _, _, _ => Nat.zero_le _
  | c :: r, ts, nd, h => by
    have hc : c ∈ ts := h c (by simp)
    have ih := pigeon r (ts.erase c) (List.nodup_cons.mp nd).2 fun d hd => by
      have ne : d ≠ c := fun q => (List.nodup_cons.mp nd).1 (q ▸ hd)
      exact (List.mem_erase_of_ne ne).mpr (h d (by simp [hd]))
    rw [List.length_erase_of_mem hc] at ih
    have : 0 < ts.length := List.length_pos_of_mem hc
    simp
    omega
theorem join1 : ∀ cs : List Nat, TL.joinL [] (cs.map fun c => [c]) = cs
  | [] => rfl
  | [_] => rfl
  | c :: d :: r => by
    have ih := join1 (d :: r)
    show [c] ++ ([] ++ TL.joinL [] ((d :: r).map fun c => [c])) = _
    rw [ih]
    rfl
theorem joined (cs : List Nat) : Txt.join "" (cs.map fun c => (⟨#[c]⟩ : Str)) = ⟨cs.toArray⟩ := by
  have h : TL.tl (Txt.join "" (cs.map fun c => (⟨#[c]⟩ : Str))) = cs := by
    rw [TL.join_eq, TL.tl_join, List.map_map]
    exact join1 cs
  generalize Txt.join "" (cs.map fun c => (⟨#[c]⟩ : Str)) = z at h
  cases z with
  | mk a =>
    rw [← h]
theorem sum_ones : ∀ cs : List Nat, ((cs.map fun c => (⟨#[c]⟩ : Str)).map (·.length)).sum = cs.length
  | [] => rfl
  | c :: r => by
    rw [List.map_cons, List.map_cons, List.sum_cons, sum_ones r]
    show 1 + r.length = r.length + 1
    omega
def candF (z : Str) (ts : List Str) (v : V) : Option V := match v with
  | .str s => if (if true = true then !inV (.str (cutS z none (some 9) ++ s)) (ts.map V.str) else inV (.str (cutS z none (some 9) ++ s)) (ts.map V.str)) = true then some (.str (cutS z none (some 9) ++ s)) else none
  | _ => none
theorem app_cps (a b : Str) : (a ++ b).cps = a.cps ++ b.cps := rfl
theorem candF_eq (z : Str) (ts : List Str) (s : Str) : candF z ts (.str s) = if cutS z none (some 9) ++ s ∈ ts then none else some (.str (cutS z none (some 9) ++ s)) := by
  show (if (!inV _ _) = true then _ else _) = _
  rw [inV_strs]
  by_cases h : cutS z none (some 9) ++ s ∈ ts
  · rw [decide_eq_true h, if_pos h]
    rfl
  · rw [decide_eq_false h, if_neg h]
    rfl
theorem cand_name {z : Str} (hz : NameOk z) {c : Nat} (hc : c ∈ smallS.cps.toList) : NameOk (cutS z none (some 9) ++ ⟨#[c]⟩) := by
  have e : cutS z none (some 9) = ⟨(z.cps.toList.take 9).toArray⟩ := cutS_to z 9
  rw [e]
  refine ⟨?_, ?_, ?_⟩
  · show 1 ≤ (_ ++ _ : Array Nat).size
    rw [Array.size_append]
    show 1 ≤ _ + 1
    omega
  · show (_ ++ _ : Array Nat).size ≤ 10
    rw [Array.size_append]
    show (z.cps.toList.take 9).toArray.size + 1 ≤ 10
    rw [List.size_toArray, List.length_take]
    omega
  · intro d hd
    rw [app_cps] at hd
    simp at hd
    rcases hd with h | h
    · exact hz.2.2 d (by simpa using List.mem_of_mem_take h)
    · rw [h]
      exact hc
theorem cand {z : Str} {ts : List Str} (hz : NameOk z) (lt : ts.length < 26) : ∃ y r, (signs smallS).filterMap (candF z ts) = V.str y :: r ∧ NameOk y ∧ y ∉ ts := by
  cases q : (signs smallS).filterMap (candF z ts) with
  | nil =>
    exfalso
    have h1 : ∀ c ∈ smallS.cps.toList, cutS z none (some 9) ++ ⟨#[c]⟩ ∈ ts := by
      intro c hc
      have h := List.filterMap_eq_nil_iff.mp q (.str ⟨#[c]⟩) (List.mem_map.mpr ⟨c, hc, rfl⟩)
      rw [candF_eq] at h
      by_cases m : cutS z none (some 9) ++ ⟨#[c]⟩ ∈ ts
      · exact m
      · rw [if_neg m] at h
        cases h
    have h2 := pigeon (smallS.cps.toList.map fun c => cutS z none (some 9) ++ (⟨#[c]⟩ : Str)) ts (by
      refine List.pairwise_map.mpr (smallS_nd.imp fun {a b} hab e => hab ?_)
      have e1 : (cutS z none (some 9)).cps ++ #[a] = (cutS z none (some 9)).cps ++ #[b] := congrArg Str.cps e
      have e2 : (cutS z none (some 9)).cps.toList ++ [a] = (cutS z none (some 9)).cps.toList ++ [b] := by
        have := congrArg Array.toList e1
        simpa using this
      simpa using List.append_cancel_left e2) (fun y hy => by
      obtain ⟨c, hc, rfl⟩ := List.mem_map.mp hy
      exact h1 c hc)
    rw [List.length_map, smallS_len] at h2
    omega
  | cons v r =>
    have hv : v ∈ (signs smallS).filterMap (candF z ts) := by rw [q]; simp
    obtain ⟨u, hu, e⟩ := List.mem_filterMap.mp hv
    obtain ⟨c, hc, rfl⟩ := List.mem_map.mp hu
    rw [candF_eq] at e
    by_cases m : cutS z none (some 9) ++ ⟨#[c]⟩ ∈ ts
    · rw [if_pos m] at e
      cases e
    · rw [if_neg m] at e
      cases e
      exact ⟨_, r, rfl, cand_name hz hc, m⟩
abbrev sLname : Stmt := topS 27
abbrev nLname : List Str := ["_law_pool_here", "_law_taken", "_law_letters", "_law_size", "_law_name_here", "_law_k", "_law_letter"]
theorem scLname : FnScope nLname ["_law_pool_here", "_law_taken"] (defScope sLname) := ⟨rfl, rfl, rfl, by decide +kernel, rfl, by decide +kernel, by decide +kernel⟩
def spName : Sp := fun vs H Q _ => ∃ (p t : Addr) (S : Hp) (ts : List Str), vs = [.ref p, .ref t] ∧ Pool S H p ∧ H t = some (.lst (ts.map V.str)) ∧ t ≠ p ∧ ts.length < 26 ∧
  ∀ (z : Str) (S' H' : Hp), NameOk z → z ∉ ts → Pool S' H' p → Gr p S H S' H' → Q (.str z) H'
theorem sizes {d : Int} (h0 : 0 ≤ d) (h1 : d < 7) : ∃ n : Int, 1 ≤ n ∧ n ≤ 10 ∧ atI [V.int 1, V.int 1, V.int 2, V.int 3, V.int 4, V.int 6, V.int 10] d = some (V.int n) := by
  obtain rfl | rfl | rfl | rfl | rfl | rfl | rfl : d = 0 ∨ d = 1 ∨ d = 2 ∨ d = 3 ∨ d = 4 ∨ d = 5 ∨ d = 6 := by omega
  · exact ⟨1, by decide, by decide, rfl⟩
  · exact ⟨1, by decide, by decide, rfl⟩
  · exact ⟨2, by decide, by decide, rfl⟩
  · exact ⟨3, by decide, by decide, rfl⟩
  · exact ⟨4, by decide, by decide, rfl⟩
  · exact ⟨6, by decide, by decide, rfl⟩
  · exact ⟨10, by decide, by decide, rfl⟩
theorem ok_name (D : Df K mg "_law_name" sLname ["_law_pool_here", "_law_taken"] f fd) (DLdraw : Df K mg "_law_draw" sLdraw ["_law_pool_here", "_law_many"] fA fdA) (T : Bl mg) : FnOk P w K mg base CX0 2 f fd ["_law_pool_here", "_law_taken"] spName := by
  have GLdraw : FnOk P w K mg base CX0 1 fA fdA ["_law_pool_here", "_law_many"] spDraw := ok_draw DLdraw T
  refine D.fn.ok scLname (fun vs H Q E h => ?_) (fun cdv A outer s H vs Q E hr h => ?_)
  · obtain ⟨p, a, S, xs, rfl, _⟩ := h
    rfl
  · obtain ⟨p, t, S, ts, rfl, P0, ht, ntp, lt, q⟩ := h
    refine ⟨_, (pss_cons (ps_set (i := 2) scLname.nd rfl (Or.inr rfl) pe_str)
      (pss_cons (ps_set (i := 3) scLname.nd rfl (Or.inl rfl) (pe_ix ix_list (pe_lst (pa_cons pe_int (pa_cons pe_int (pa_cons pe_int (pa_cons pe_int (pa_cons pe_int (pa_cons pe_int (pa_cons pe_int pa_nil)))))))) (pe_df DLdraw GLdraw (hr.mono (by decide)) (pa_cons (pv 0) (pa_cons pe_int pa_nil))) (fun _ _ => rfl)))
      (pss_cons (ps_set (i := 4) scLname.nd rfl (Or.inr rfl) (pe_join pe_str (pe_lc (own := [("_law_k", 5)]) rfl scLname.nd (pi_range1 (by rfl) T.range (pa_cons (pv 3) pa_nil)) (blkOk_by (own := [("_law_k", 5)]) (N := nLname) (sc := defScope sLname) (by decide +kernel)) (fun _ _ _ _ _ => (pg_name (i := 5) scLname.nd rfl (Or.inl rfl))) (fun _ _ _ _ _ => pts_nil) (fun _ _ _ _ _ => (pe_ix ix_str (pv 2) (pe_df DLdraw GLdraw (hr.mono (by decide)) (pa_cons (pv 0) (pa_cons pe_int pa_nil))) (fun _ _ => rfl))))))
      (C8.pss_cut (ps_if (pt_cmpR op_in_seq (pv 4) (pv 1) (by rfl)) (pss_one (ps_set (i := 4) scLname.nd rfl (Or.inr rfl) (pe_ix ix_list (pe_lc (own := [("_law_letter", 6)]) rfl scLname.nd (pi_str (pv 2)) (blkOk_by (own := [("_law_letter", 6)]) (N := nLname) (sc := defScope sLname) (by decide +kernel)) (fun _ _ _ _ _ => (pg_name (i := 6) scLname.nd rfl (Or.inl rfl))) (fun _ _ _ _ _ => (pts_one (pt_cmpR (r := rIn K true) op_notIn_seq (pe_op op_add_str (pe_slice sl_str (pv 4) po_none (po_some pe_int)) (pv 6)) (pv 1) (by rfl)))) (fun _ _ _ _ _ => (pe_op op_add_str (pe_slice sl_str (pv 4) po_none (po_some pe_int)) (pv 6)))) pe_int (fun _ _ => rfl)))) pss_nil)
      (pss_one (ps_ret (pv 4))))))), ?_⟩
    refine ⟨by show 7 ≤ sizeLine; decide, fun l hl => ?_⟩
    have P1 := P0.new (o := .lst [V.int 1, V.int 1, V.int 2, V.int 3, V.int 4, V.int 6, V.int 10]) hl
    have g1 := (Gr.refl (p := p) (S := S) (H := H)).new (o := .lst [V.int 1, V.int 1, V.int 2, V.int 3, V.int 4, V.int 6, V.int 10]) P0.ss hl
    have nlp : l ≠ p := fun z => P0.has (by rw [← z]; exact hl)
    refine ⟨_, rfl, p, _, 7, rfl, by decide, by decide, P1, fun d S2 H2 P2 g2 d0 d1 => ?_⟩
    obtain ⟨n, n1, n2, hn⟩ := sizes d0 d1
    refine ⟨l, _, d, _, rfl, rfl, SqL.of (g2.rs _ _ nlp upd_same), hn, ?_⟩
    have g02 := g1.trans g2
    show tSeq _ _ _ [some (.ref p), some (.ref t), some (.str smallS), some (.int n), none, none, none] H2
    refine ⟨⟨_, rfl⟩, _, rfl, n, rfl, by omega, by omega, fun D1 hD1 => lc_range (lo := 0) (n := n.toNat) (fun i H' => ∃ (S' : Hp) (cs : List Nat), Pool S' H' p ∧ S' D1 = none ∧ Gr p S2 H2 S' H' ∧ H' D1 = some (.lst ((cs.map fun c => (⟨#[c]⟩ : Str)).map V.str)) ∧ cs.length = i ∧ ∀ c ∈ cs, c ∈ smallS.cps.toList) ?_ ?_ ?_⟩
    · refine ⟨S2, [], P2.put (P2.ss.free hD1) (fun z => P2.has (by rw [← z]; exact hD1)), P2.ss.free hD1, Gr.refl.put hD1, upd_same, rfl, fun c h => by cases h⟩
    · rintro i H' hi ⟨S', cs, P', sD, g', hD', lc, hc⟩
      have nDp : D1 ≠ p := fun z => P2.has (by rw [← z]; exact hD1)
      refine ⟨rfl, _, rfl, _, rfl, p, S', 26, rfl, by decide, by decide, P', fun e S3 H3 P3 g3 e0 e1 => ?_⟩
      have he : e.toNat < smallS.cps.toList.length := by rw [smallS_len]; omega
      refine ⟨smallS, e, smallS.cps.toList[e.toNat], rfl, rfl, by decide, at_ofG (j := e.toNat) (show e = ((e.toNat : Nat) : Int) by omega) (List.getElem?_eq_getElem he), ?_⟩
      obtain ⟨sD3, hD3⟩ := g3.loc nDp sD hD'
      refine ⟨_, hD3, ?_, S3, cs ++ [smallS.cps.toList[e.toNat]], P3.put sD3 nDp, sD3, (g'.trans g3).put hD1, ?_, ?_, ?_⟩
      · rw [List.length_map, List.length_map]
        exact small1000 (by omega)
      · rw [upd_same]
        simp
      · simp [lc]
      · intro c h
        rcases List.mem_append.mp h with h | h
        · exact hc c h
        · rw [List.mem_singleton.mp h]
          exact List.getElem_mem _
    · rintro H' ⟨S3, cs, P3, sD, g3, hD3, lc, hc⟩
      refine ⟨_, _, _, rfl, rfl, .inl (SqL.of hD3), ?_, ?_⟩
      · rw [sum_ones, List.length_map]
        show cs.length + cs.length * 0 ≤ _
        omega
      have nDp : D1 ≠ p := fun z => P2.has (by rw [← z]; exact hD1)
      have g03 : Gr p S H S3 H' := g02.trans g3
      have ht3 := g03.rs _ _ ntp ht
      have hz : NameOk ⟨cs.toArray⟩ := ⟨by show 1 ≤ cs.toArray.size; simp; omega, by show cs.toArray.size ≤ 10; simp; omega, by simpa using hc⟩
      rw [joined]
      show C8.tCut _ _ _ [some (.ref p), some (.ref t), some (.str smallS), some (.int n), some (.str ⟨cs.toArray⟩), none, none] H'
      generalize (⟨cs.toArray⟩ : Str) = z at hz ⊢
      refine ⟨fun σ H4 => ∃ (z : Str) (S4 : Hp), σ = [some (.ref p), some (.ref t), some (.str smallS), some (.int n), some (.str z), none, none] ∧ NameOk z ∧ z ∉ ts ∧ Pool S4 H4 p ∧ Gr p S H S4 H4, ?_, ?_⟩
      · refine ⟨_, rfl, _, rfl, t, _, rfl, .inl (SqL.of ht3), rfl, strs_flat ts, _, rfl, ite2 (fun c => ?_) (fun c => ?_)⟩
        · obtain ⟨y, r, ey, hy, ny⟩ := cand hz lt
          have hz10 := hz.2.1
          refine ⟨_, rfl, smallS, rfl, fun D2 hD2 => lc_pureS (candF z ts) (by decide) (fun _ => rfl) (fun v H5 hv s5 Q5 q5 => ?_) hD2 (fun H5 s5 h5 => ?_)⟩
          · obtain ⟨c, hc, rfl⟩ := List.mem_map.mp hv
            have l9 : (cutS z none (some 9)).length + (⟨#[c]⟩ : Str).length ≤ sizeLine := by
              have h := (cand_name hz hc).2.1
              have e : (cutS z none (some 9) ++ (⟨#[c]⟩ : Str)).length = (cutS z none (some 9)).length + (⟨#[c]⟩ : Str).length := Array.size_append
              rw [e] at h
              exact Nat.le_trans h (by decide)
            have hzl : z.length ≤ sizeLine := Nat.le_trans hz10 (by decide)
            refine ⟨_, rfl, 9, rfl, z, rfl, hzl, _, rfl, _, _, rfl, rfl, l9, _, rfl, t, _, rfl, .inl (SqL.of (s5 _ _ ht3)), rfl, strs_flat ts, _, rfl, ite2 (fun c5 => ?_) (fun c5 => ?_)⟩
            · refine ⟨_, rfl, 9, rfl, z, rfl, hzl, _, rfl, _, _, rfl, rfl, l9, ?_⟩
              have := q5 H5 (Same.refl _)
              rw [show candF z ts (V.str ⟨#[c]⟩) = some (.str (cutS z none (some 9) ++ ⟨#[c]⟩)) from if_pos c5] at this
              exact this
            · have := q5 H5 (Same.refl _)
              rw [show candF z ts (V.str ⟨#[c]⟩) = none from if_neg c5] at this
              exact this
          · rw [ey] at h5
            refine ⟨D2, _, 0, _, rfl, rfl, SqL.of h5, atI_nat (j := 0) rfl, y, S3, rfl, hy, ny, P3.same s5, g03.same s5⟩
        · refine ⟨z, S3, rfl, hz, ?_, P3, g03⟩
          intro hm
          apply c
          rw [inV_strs]
          exact decide_eq_true hm
      · rintro σ H4 ⟨z, S4, rfl, hz, hn, P4, g4⟩
        exact ⟨_, rfl, q z S4 H4 hz hn P4 g4⟩

abbrev sLnames : Stmt := topS 28
abbrev nLnames : List Str := ["_law_pool_here", "_law_many", "_law_names_here", "_law_k"]
theorem scLnames : FnScope nLnames ["_law_pool_here", "_law_many"] (defScope sLnames) := ⟨rfl, rfl, rfl, by decide +kernel, rfl, by decide +kernel, by decide +kernel⟩
def spNames : Sp := fun vs H Q _ => ∃ (p : Addr) (n : Int) (S : Hp), vs = [.ref p, .int n] ∧ Pool S H p ∧ 0 ≤ n ∧ n ≤ 26 ∧
  ∀ (a : Addr) (zs : List Str) (S' H' : Hp), Pool S' H' p → Gr p S H S' H' → S' a = some (.lst (zs.map V.str)) → (zs.length : Int) = n → (∀ z ∈ zs, NameOk z) → zs.Nodup → Q (.ref a) H'
theorem ok_names {fB : Addr} {fdB : FuncData} (D : Df K mg "_law_names" sLnames ["_law_pool_here", "_law_many"] f fd) (DLname : Df K mg "_law_name" sLname ["_law_pool_here", "_law_taken"] fB fdB) (DLdraw : Df K mg "_law_draw" sLdraw ["_law_pool_here", "_law_many"] fA fdA) (T : Bl mg) : FnOk P w K mg base CX0 3 f fd ["_law_pool_here", "_law_many"] spNames := by
  have GLname : FnOk P w K mg base CX0 2 fB fdB ["_law_pool_here", "_law_taken"] spName := ok_name DLname DLdraw T
  refine D.fn.ok scLnames (fun vs H Q E h => ?_) (fun cdv A outer s H vs Q E hr h => ?_)
  · obtain ⟨p, n, S, rfl, _⟩ := h
    rfl
  · obtain ⟨p, n, S, rfl, P0, n0, n1, q⟩ := h
    refine ⟨_, (pss_cons (ps_set (i := 2) scLnames.nd rfl (Or.inl rfl) (pe_lst pa_nil))
      (pss_cons (ps_for PassesOwn.never rfl (pi_range1 (by rfl) T.range (pa_cons (pv 1) pa_nil)) (pg_name (i := 3) scLnames.nd rfl (Or.inl rfl)) (pss_one (ps_expr (pe_bm PySem.F.plainAttrs_list PySem.F.slot_list_append PySem.F.type_list_append mt_append (pv 2) (pa_cons (pe_df DLname GLname (hr.mono (by decide)) (pa_cons (pv 0) (pa_cons (pv 2) pa_nil))) pa_nil)))))
      (pss_one (ps_ret (pv 2))))), ?_⟩
    refine ⟨Nat.zero_le _, fun l hl => ?_⟩
    have nlp : l ≠ p := fun z => P0.has (by rw [← z]; exact hl)
    refine ⟨_, rfl, n, rfl, by omega, by omega, for_range (lo := 0) (n := n.toNat) (fun i σ H' => ∃ (v : Option V) (S' : Hp) (zs : List Str), σ = [some (.ref p), some (.int n), some (.ref l), v] ∧ Pool S' H' p ∧ S' l = none ∧ Gr p S H S' H' ∧ H' l = some (.lst (zs.map V.str)) ∧ zs.length = i ∧ (∀ z ∈ zs, NameOk z) ∧ zs.Nodup) ?_ ?_ ?_⟩
    · exact ⟨none, S, [], rfl, P0.put (P0.ss.free hl) nlp, P0.ss.free hl, Gr.refl.put hl, upd_same, rfl, (fun z h => by cases h), List.nodup_nil⟩
    · rintro i σ H' hi ⟨v, S', zs, rfl, P', sl, g', hl', lz, hz, nd⟩
      refine ⟨_, rfl, .inl ⟨rfl, _, SqL.of hl'⟩, _, rfl, _, rfl, p, l, S', zs, rfl, P', hl', nlp, by omega, fun z S2 H2 hn hm P2 g2 => ?_⟩
      obtain ⟨sl2, hl2⟩ := g2.loc nlp sl hl'
      refine ⟨l, _, _, rfl, rfl, hl2, ?_, _, S2, zs ++ [z], rfl, P2.put sl2 nlp, sl2, (g'.trans g2).put hl, ?_, ?_, ?_, ?_⟩
      · rw [List.length_map]
        exact small1000 (by omega)
      · rw [upd_same]
        simp
      · simp [lz]
      · intro y hy
        rcases List.mem_append.mp hy with h | h
        · exact hz y h
        · rw [List.mem_singleton.mp h]
          exact hn
      · rw [List.nodup_append]
        refine ⟨nd, by simp, ?_⟩
        intro a ha b hb e
        rw [List.mem_singleton.mp hb] at e
        exact hm (e ▸ ha)
    · rintro σ H' ⟨v, S', zs, rfl, P', sl, g', hl', lz, hz, nd⟩
      exact ⟨_, rfl, q l zs _ H' (P'.fix hl' sl nlp) (g'.fix hl sl) upd_same (by omega) hz nd⟩
end
end WW

set_option Elab.async false
set_option linter.all false
set_option maxRecDepth 100000
set_option maxHeartbeats 4000000
namespace WW
open PySem PySem.Spec PyProof.Rows L2
open Sem (wp)
open AutoSeq1 (wpAny_loadPart')
theorem meets_enumerate_newT (l : Addr) (items : Array Value) (n : Nat) (dct : Option Addr) (sl : Array (Option Value)) :
    Meets (Builtin.«enumerate.__new__» ⟨[.type "enumerate", .ref l], []⟩) (fun _ R s => s.heap.get? l = some { cls := .type "tuple", dict := dct, data := .seq items n, slots := sl } ∧
      R (.ok (.ret (.ref (s.heap.push { cls := .type "tuple_iterator", data := .fields #[.ref l, .int 0 0] }).objs.size)))
        { s with heap := (s.heap.push { cls := .type "tuple_iterator", data := .fields #[.ref l, .int 0 0] }).push { cls := .type "enumerate", data := .fields #[.none, .bool false, .ref s.heap.objs.size, rawInt 0, .none, .none] } }) :=
  .of_wp fun prog w A R s h => by
    obtain ⟨hp, g, d, tk, os⟩ := s; obtain ⟨hl, h⟩ := h
    have hsub := sub_enumerate
    have hL : Heap.IsTuple (Shared.heap ⟨hp, g, d, tk, os⟩) l items := ⟨_, hl, rfl, n, rfl⟩
    wp_walk using wpAny_loadPart' hl
    refine wpAny_stack_any fun st => wpAny_pure ?_
    split
    · rename_i c _ _ _ _ _
      cases (c == Value.type "enumerate")
      · wp_walk using wpAny_loadPart' hl, wpAny_pyIter_tuple hL
        exact ⟨_, rfl, h⟩
      · wp_walk using wpAny_loadPart' hl, wpAny_pyIter_tuple hL
        exact ⟨_, rfl, h⟩
    · wp_walk using wpAny_loadPart' hl, wpAny_pyIter_tuple hL
      exact ⟨_, rfl, h⟩
theorem call_enumerate_tuple {prog : Program} {w : World} {A : Around} {E : Value → Shared → Prop} {s : Shared} {l : Addr} {items : Array Value} {Q : Value → Shared → Prop} (hL : s.heap.IsTuple l items)
    (h : ∀ h', IsEnum h' (s.heap.objs.size + 1) s.heap.objs.size 0 .none → h'.IsTupleIter s.heap.objs.size l 0 → h'.objs.size = s.heap.objs.size + 2 →
      (∀ b o, s.heap.get? b = some o → h'.get? b = some o) → Q (.ref (s.heap.objs.size + 1)) { s with heap := h' }) :
    wpAny (model prog w) A (call (.type "enumerate") [.ref l]) Q E s := by
  obtain ⟨⟨c, dct, dt, sl⟩, hl, hc, n, hd⟩ := hL
  replace hc : c = .type "tuple" := hc
  replace hd : dt = .seq items n := hd
  subst hc hd
  refine callType_new F.called_enumerate (by decide) (F.typeCall_enumerate_1 _) (F.newCall_enumerate_1 _) (fun obj => F.args_object_init_2 obj _) F.entry_enumerate_new
    (meets_enumerate_newT l items n dct sl) ⟨hl, ?_⟩
  have hz : (s.heap.push { cls := .type "tuple_iterator", data := .fields #[.ref l, .int 0 0] }).objs.size = s.heap.objs.size + 1 := Heap.size_push ..
  show _ ∧ _
  rw [hz]
  have he : IsEnum ((s.heap.push { cls := .type "tuple_iterator", data := .fields #[.ref l, .int 0 0] }).push
      { cls := .type "enumerate", data := .fields #[.none, .bool false, .ref s.heap.objs.size, rawInt 0, .none, .none] }) (s.heap.objs.size + 1) s.heap.objs.size 0 .none := by
    have := Heap.get?_push_size (s.heap.push { cls := .type "tuple_iterator", data := .fields #[.ref l, .int 0 0] })
      (o := { cls := .type "enumerate", data := .fields #[.none, .bool false, .ref s.heap.objs.size, rawInt 0, .none, .none] }) rfl
    rw [hz] at this; exact this
  refine ⟨⟨_, he, rfl⟩, h _ he ⟨_, Heap.get?_push_of_some _ (Heap.get?_push_size _ rfl), rfl, rfl⟩ (by rw [Heap.size_push, hz]) fun b o x => Heap.get?_push_of_some _ (Heap.get?_push_of_some _ x)⟩
/-- the tuple at a, each item in a new pair -/
def Itet (K : PySem.W.Frag) (a : Addr) : It :=
  ⟨fun i H => ∃ (xs : List V) (x : V), SqT K H a xs ∧ xs[i]? = some x, fun i H v H' => ∃ T x, v = .ref T ∧ H T = none ∧ H' = upd H T (.tup [.int (i : Nat), x]) ∧ ∀ xs, SqT K H a xs → xs[i]? = some x, fun i H => ∃ xs : List V, SqT K H a xs ∧ i = xs.length⟩
theorem turn_enumT {P : Program} {w : World} {K : PySem.W.Frag} {elts : List Expr} {kk : Nat} {tpos : Pos} (a e it : Addr) :
    Turn P w K (.Tuple elts kk tpos) (Itet K a) [e, it] e (fun i h => (∃ old, IsEnum h e it ((i : Nat) : Int) old) ∧ h.IsTupleIter it a i ∧ e ≠ it ∧ a ≠ it ∧ a ≠ e) where
  mem := by simp
  obj := fun i h st b hb => by
    obtain ⟨⟨old, he⟩, ⟨o, ho, hc, hd⟩, _⟩ := st
    have e' : b = e ∨ b = it := by simpa using hb
    rcases e' with z | z
    · rw [z]; exact ⟨_, he, fun v q => nomatch q⟩
    · rw [z]; exact ⟨o, ho, fun v q => by rw [hd] at q; cases q⟩
  keep := fun i h h' st k => let ⟨⟨old, he⟩, hi, hne⟩ := st; ⟨⟨old, k e (by simp) _ he⟩, hi.at fun o q => k it (by simp) o q, hne⟩
  item := by
    intro X hP hw hK hc i pins s σ H E I hf st hg
    subst hP hw hK
    obtain ⟨⟨old, he⟩, hit, hne, hai, hae⟩ := st
    obtain ⟨xs, x, hq, hx⟩ := hg
    obtain ⟨its, rv, p, hz⟩ := I.tuple hq
    obtain ⟨u, hu, ru⟩ := rv.get hx
    have hel : e < s.heap.objs.size := Heap.lt_size he
    have hil : it < s.heap.objs.size := by obtain ⟨_, q, _⟩ := hit; exact Heap.lt_size q
    have pt : s.heap.IsTuple a its.toArray := p
    refine wpAny_pyNext_enum_itemD (Draws.tuple (A := X.A.in1) (show X.A.in1.handled = none from I.ok.hd hc) it a hai its.toArray) he ⟨hit, pt⟩ (by
      have := (List.getElem?_eq_some_iff.mp hu).1
      simpa using this) hne (by simp [hne, Ne.symm hae]) fun u' h' tk hu' ho hst hT hsz hk => ?_
    have eu : u' = u := by
      have e1 : its.toArray[i]? = some u := by simpa using hu
      rw [e1] at hu'
      exact (Option.some.inj hu').symm
    subst eu
    refine ⟨_, rfl, wpAny_letOwnedTupleGo_enum (s := { s with heap := h', toks := tk + 1 }) ho fun h'' he' sb => ?_⟩
    have hT2 : h''.get? s.heap.objs.size = some { cls := .type "tuple", data := .seq #[.int i tk, u'] } := (sb.2 _ (Nat.ne_of_gt hel)).trans hT
    have new : ObjOk X.prog X.w (upd H s.heap.objs.size (.tup [.int (i : Nat), x])) h'' s.heap.objs.size (.tup [.int (i : Nat), x]) :=
      ⟨by show 2 ≤ sizeLine; decide, [.int i tk, u'], .cons ⟨_, rfl⟩ (.cons ru .nil), ⟨_, hT2, rfl, _, rfl⟩⟩
    have I1 : Inv X pins σ (upd H s.heap.objs.size (.tup [.int (i : Nat), x])) { s with heap := h'', toks := tk + 1 } :=
      I.turnedNew (ch := [e, it]) (fun b ob hb q => (sb.2 b (fun z => hb (by simp [z]))).trans (hk b ob (fun z => hb (by simp [z])) (fun z => hb (by simp [z])) q)) hf (Nat.le_refl _) new
    refine ⟨.ref s.heap.objs.size, _, I1, rfl, ⟨_, x, rfl, I.hok.fresh (Nat.le_refl _), rfl, fun ys hy => by rw [I.tuple_inj hy hq]; exact hx⟩, ⟨⟨u', ?_⟩, hst.1.at fun o q => (sb.2 it (Ne.symm hne)).trans q, hne, hai, hae⟩, fun b hb => ?_⟩
    · have e1 : ((i + 1 : Nat) : Int) = (i : Int) + 1 := by omega
      rw [e1]; exact he'
    · have hb' : b < s.heap.objs.size := by
        have e' : b = e ∨ b = it := by simpa using hb
        rcases e' with z | z
        · rw [z]; exact hel
        · rw [z]; exact hil
      rw [upd_ne (Nat.ne_of_lt hb')]
      exact (hf b hb).1
  done := by
    intro X hP hw hK hc i pins s σ H E I hf st hg
    subst hP hw hK
    obtain ⟨⟨old, he⟩, hit, hne, hai, hae⟩ := st
    obtain ⟨xs, hq, hx⟩ := hg
    obtain ⟨its, rv, p, hz⟩ := I.tuple hq
    obtain ⟨f0, f1, f2, f3, f4, f5⟩ := hf it (by simp)
    have hl := rv.length
    have pt : s.heap.IsTuple a its.toArray := p
    have ei : i = its.toArray.size := by rw [List.size_toArray, ← hl]; exact hx
    exact wpAny_pyNext_enum_endD (Draws.tuple (A := X.A.in1) (show X.A.in1.handled = none from I.ok.hd hc) it a hai its.toArray) he ⟨ei ▸ hit, pt⟩ fun h' eb => ⟨rfl, I.turned (t' := s.toks) (fun b o hb q => eb b o hb q) f0 f1 f3 f4 f5⟩
  self := fun A i s Q E st h => let ⟨⟨_, he⟩, _⟩ := st; wpAny_pyIter_enum he h
/-- enumerate of a list or of a tuple -/
def iEnumS (K : PySem.W.Frag) (ta : TA) : TI := fun σ H R => ta σ H fun vs H1 => (∃ a xs, vs = [.ref a] ∧ SqL K H1 a xs ∧ R (Ite K a) H1) ∨ (∃ a xs, vs = [.ref a] ∧ SqT K H1 a xs ∧ R (Itet K a) H1)
theorem pi_enumD {X : Cx} {e : Expr} {ta : TA} {p pos tpos : Pos} {elts : List Expr} {kk : Nat} (hg : Gl X "enumerate") (hm : X.mg "enumerate" = none) (ha : PA X [e] ta) (hs : starEach [e] X.env = [(false, eval e X.env)] := by rfl) :
    PI X (.Tuple elts kk tpos) (.Call (.Name "enumerate" p) [e] [] pos) (iEnumS X.K ta) := by
  refine ⟨fun pins s σ H R I h => ?_⟩
  refine Call_ (ld_blt I hg hm boot_enumerate (PyProof.Rows.callWith_type1 (thn (ha.run pos pins s σ H _ I h) fun us s1 ⟨vs, H1, I1, r1, q1⟩ => ?_) hs rfl))
  rcases q1 with ⟨a, xs, ex, hq, q⟩ | ⟨a, xs, ex, hq, q⟩
  · subst ex
    cases r1 with
    | cons r rr =>
      cases rr
      cases r
      obtain ⟨its, rv, p', hz⟩ := I1.list hq
      refine call_enumerate_list p'.isList fun h' he hit hsz hk => wpAny_pyIter_enum he ?_
      have I2 : Inv X pins σ H1 { s1 with heap := h' } := I1.kept (t' := s1.toks) hk
      refine ⟨s1.heap.objs.size + 1, [s1.heap.objs.size + 1, s1.heap.objs.size], _, _, H1, rfl, I2, turn_enum a (s1.heap.objs.size + 1) s1.heap.objs.size, ⟨⟨.none, he⟩, hit, Nat.succ_ne_self _⟩, fun b hb => ?_, q⟩
      have e' : b = s1.heap.objs.size + 1 ∨ b = s1.heap.objs.size := by simpa using hb
      have hle : s1.heap.objs.size ≤ b := by
        rcases e' with z | z
        · rw [z]; exact Nat.le_add_right _ _
        · rw [z]; exact Nat.le_refl _
      exact I1.fpOk hle (I1.hok.fresh hle)
  · subst ex
    cases r1 with
    | cons r rr =>
      cases rr
      cases r
      obtain ⟨its, rv, p', hz⟩ := I1.tuple hq
      have pt : s1.heap.IsTuple a its.toArray := p'
      have hal : a < s1.heap.objs.size := p'.lt
      refine call_enumerate_tuple pt fun h' he hit hsz hk => wpAny_pyIter_enum he ?_
      have I2 : Inv X pins σ H1 { s1 with heap := h' } := I1.kept (t' := s1.toks) hk
      refine ⟨s1.heap.objs.size + 1, [s1.heap.objs.size + 1, s1.heap.objs.size], _, _, H1, rfl, I2, turn_enumT a (s1.heap.objs.size + 1) s1.heap.objs.size, ⟨⟨.none, he⟩, hit, Nat.succ_ne_self _, Nat.ne_of_lt hal, Nat.ne_of_lt (Nat.lt_succ_of_lt hal)⟩, fun b hb => ?_, q⟩
      have e' : b = s1.heap.objs.size + 1 ∨ b = s1.heap.objs.size := by simpa using hb
      have hle : s1.heap.objs.size ≤ b := by
        rcases e' with z | z
        · rw [z]; exact Nat.le_add_right _ _
        · rw [z]; exact Nat.le_refl _
      exact I1.fpOk hle (I1.hok.fresh hle)
end WW

set_option Elab.async false
set_option linter.all false
set_option maxRecDepth 100000
set_option maxHeartbeats 4000000
namespace WW
open PySem PySem.Spec PyProof.Rows L2
/-! ### sets whose members are keys of one kind, with what their walk wants -/
theorem paired_perm {α β : Type} {R : α → β → Prop} {l l' : List β} (p : l'.Perm l) : ∀ {ls : List α}, Paired R ls l → ∃ ls', ls'.Perm ls ∧ Paired R ls' l' := by
  induction p with
  | nil => intro ls h; exact ⟨ls, List.Perm.refl _, h⟩
  | cons x _ ih =>
    intro ls h
    cases h with
    | cons r t =>
      obtain ⟨ls', p', h'⟩ := ih t
      exact ⟨_ :: ls', p'.cons _, .cons r h'⟩
  | swap x y l =>
    intro ls h
    cases h with
    | cons r t =>
      cases t with
      | cons r2 t2 => exact ⟨_, List.Perm.swap _ _ _, .cons r2 (.cons r t2)⟩
  | trans _ _ ih1 ih2 =>
    intro ls h
    obtain ⟨l2, p2, h2⟩ := ih2 h
    obtain ⟨l1, p1, h1⟩ := ih1 h2
    exact ⟨l1, p1.trans p2, h1⟩
theorem paired_snoc {α β : Type} {R : α → β → Prop} : ∀ {ls : List α} {l : List β} {x : α} {y : β}, Paired R ls l → R x y → Paired R (ls ++ [x]) (l ++ [y])
  | _, _, _, _, .nil, r => .cons r .nil
  | _, _, _, _, .cons q t, r => .cons q (paired_snoc t r)
theorem paired_mem {α β : Type} {R : α → β → Prop} : ∀ {ls : List α} {l : List β}, Paired R ls l → ∀ y ∈ l, ∃ x ∈ ls, R x y
  | _, _, .nil, _, h => by cases h
  | _, _, .cons q t, y, h => by
    rcases List.mem_cons.mp h with h | h
    · subst h
      exact ⟨_, by simp, q⟩
    · obtain ⟨x, hx, r⟩ := paired_mem t y h
      exact ⟨x, by simp [hx], r⟩
theorem paired_memL {α β : Type} {R : α → β → Prop} : ∀ {ls : List α} {l : List β}, Paired R ls l → ∀ x ∈ ls, ∃ y ∈ l, R x y
  | _, _, .nil, _, h => by cases h
  | _, _, .cons q t, y, h => by
    rcases List.mem_cons.mp h with h | h
    · subst h
      exact ⟨_, by simp, q⟩
    · obtain ⟨x, hx, r⟩ := paired_memL t y h
      exact ⟨x, by simp [hx], r⟩
def insG {κ : Type} [DecidableEq κ] (k : κ) (ks : List κ) : List κ := if k ∈ ks then ks else k :: ks
section
variable {P : Program} {w : World} {κ : Type} [DecidableEq κ] (knd : PySem.KeyKind P w κ)
def Ent (k : κ) (e : Int × Value) : Prop := knd.is k e.2 = true ∧ e.1 = knd.hash k ∧ e.2.scannable = true
/-- what is told of a set's content and table -/
def Tab (w : World) (es : Array (Int × Value)) (t : SetTable) (ks : List κ) : Prop :=
  (∃ ls, Paired (Ent knd) ls es.toList ∧ ls.Perm ks) ∧ ks.Nodup ∧ es.size < scanBound ∧ t.fits es.size = true ∧ Ris t.place.toList ∧ (w.params.followText "set-order" = true ∨ t.led = true)
def SetG (h : Heap) (a : Addr) (ks : List κ) : Prop := ∃ o es ep t, h.get? a = some o ∧ o.ExactSet ∧ o.data = .set es ep t ∧ Tab knd w es t ks
variable {knd}
theorem Tab.elems {es : Array (Int × Value)} {t : SetTable} {ks : List κ} (T : Tab knd w es t ks) : ElemsOf knd es.toList := fun e he => by
  obtain ⟨⟨ls, hp, _⟩, _⟩ := T
  obtain ⟨k, _, h1, h2, h3⟩ := paired_mem hp e he
  exact ⟨⟨k, h1, h2⟩, h3⟩
theorem Tab.mem {es : Array (Int × Value)} {t : SetTable} {ks : List κ} (T : Tab knd w es t ks) (k : κ) : (∃ e ∈ es.toList, knd.is k e.2 = true) ↔ k ∈ ks := by
  obtain ⟨⟨ls, hp, hpm⟩, _⟩ := T
  constructor
  · rintro ⟨e, he, h⟩
    obtain ⟨k', hk', h1, _⟩ := paired_mem hp e he
    rw [knd.inj _ _ _ h h1]
    exact hpm.mem_iff.mp hk'
  · intro h
    obtain ⟨e, he, h1, _⟩ := paired_memL hp k (hpm.mem_iff.mpr h)
    exact ⟨e, he, h1⟩
theorem Tab.size {es : Array (Int × Value)} {t : SetTable} {ks : List κ} (T : Tab knd w es t ks) : es.size = ks.length := by
  obtain ⟨⟨ls, hp, hpm⟩, _⟩ := T
  rw [← Array.length_toList, ← Paired.length hp, hpm.length_eq]
theorem SetG.setOf {h : Heap} {a : Addr} {ks : List κ} (R : SetG knd h a ks) : h.SetOf knd a (fun k => decide (k ∈ ks)) ks.length := by
  obtain ⟨o, es, ep, t, ho, hx, hd, T⟩ := R
  refine ⟨o, es, ep, t, ho, hx, hd, T.elems, fun k => ?_, T.2.2.1, T.2.2.2.1, T.size⟩
  rw [decide_eq_true_iff]
  exact (T.mem k).symm
theorem SetG.at {h h' : Heap} {a : Addr} {ks : List κ} (R : SetG knd h a ks) (k : ∀ o, h.get? a = some o → h'.get? a = some o) : SetG knd h' a ks := by
  obtain ⟨o, es, ep, t, ho, r⟩ := R
  exact ⟨o, es, ep, t, k o ho, r⟩
theorem SetG.fresh {h : Heap} : SetG knd (h.push { cls := .type "set", dict := none, data := .set #[] 0 (.fresh 0 0 (!w.params.followText "set-order")) }) h.objs.size [] := by
  refine ⟨_, #[], 0, _, Heap.get?_push_size _ rfl, ⟨rfl, rfl, rfl⟩, rfl, ⟨[], .nil, .nil⟩, List.nodup_nil, by decide, rfl, List.Pairwise.nil, ?_⟩
  cases q : w.params.followText "set-order" with
  | false => exact .inr (by show (!false) = true; rfl)
  | true => exact .inl rfl
end
section
variable {P : Program} {w : World} {κ : Type} [DecidableEq κ] {knd : PySem.KeyKind P w κ} {A : Around} {E : Value → Shared → Prop} {s : Shared} {a : Addr} {ks : List κ}
theorem put_there {h : Heap} {o : Obj} {es es' : Array (Int × Value)} {ep : Nat} {t t' : SetTable} (ho : h.get? a = some o) (hd : o.data = .set es ep t) :
    (h.update a (Obj.putSet es' t')).get? a = some { o with data := .set es' (ep + 1) t' } := by
  have e := Heap.get?_update_self (Obj.putSet es' t') ho (by rw [putSet_of es' t' hd]; rfl)
  rwa [putSet_of es' t' hd] at e
/-- what stands behind the new item's laying -/
theorem laid_tail {g : Bool → Sem Unit} (hg : ∀ (b : Bool) (s1 : Shared) (Q : Unit → Shared → Prop), Q () s1 → wpAny (model P w) A (g b) Q E s1) {o : Obj} {es es1 : Array (Int × Value)} {ep : Nat} {t t2 : SetTable} {ks' : List κ} {dm : Bool} {R : Option Bool → Shared → Prop} (ho : s.heap.get? a = some o) (hx : o.ExactSet) (hd : o.data = .set es ep t)
    (T : Tab knd w es1 t2 ks') (hR : ∀ h', Heap.SameBut a s.heap h' → SetG knd h' a ks' → R (some true) { s with heap := h' }) :
    wpAny (model P w) A (do
      storeSet a es1 t2
      if (!dm && t2.tooFull) = true then do
        g (relayAll t2 es1 (SetTable.grown es1.size)).2.2
        storeSet a (relayAll t2 es1 (SetTable.grown es1.size)).1 (relayAll t2 es1 (SetTable.grown es1.size)).2.1
        pure (some true)
      else pure (some true)) R E s := by
  refine wpAny_bind (wpAny_storeSet_of ho hd ?_ (fits_of_scanBound T.2.2.1))
  have o1 := put_there (es' := es1) (t' := t2) ho hd
  have b1 := Heap.SameBut.update s.heap a (Obj.putSet es1 t2)
  split
  · obtain ⟨⟨ls, hp, hpm⟩, nd, hb, hf, hr, hl⟩ := T
    have q1 := relayAll_perm t2 es1 (SetTable.grown es1.size)
    have q2 := relayAll_fits t2 es1 (SetTable.grown es1.size)
    have q3 := relayAll_ris t2 es1 (SetTable.grown es1.size)
    have q4 := relayAll_led t2 es1 (SetTable.grown es1.size)
    generalize relayAll t2 es1 (SetTable.grown es1.size) = z at q1 q2 q3 q4 ⊢
    obtain ⟨es2, t3, gv⟩ := z
    dsimp only at q1 q2 q3 q4 ⊢
    have sz : es2.size = es1.size := by rw [← Array.length_toList, ← Array.length_toList, q1.length_eq]
    refine wpAny_bind (hg _ _ _ (wpAny_bind (wpAny_storeSet_of o1 rfl (wpAny_pure (hR _ (b1.trans (Heap.SameBut.update _ a _)) ?_)) (fits_of_scanBound (by rw [sz]; exact hb)))))
    obtain ⟨ls', p', h'⟩ := paired_perm q1 hp
    exact ⟨_, es2, _, t3, put_there o1 rfl, hx, rfl, ⟨ls', h', p'.trans hpm⟩, nd, by rw [sz]; exact hb, q2, q3, hl.imp id fun z => by rw [q4]; exact z⟩
  · exact wpAny_pure (hR _ b1 ⟨_, es1, _, t2, o1, hx, rfl, T⟩)
theorem addG_hashed {k : κ} {x : Value} {Q : Bool → Shared → Prop} (hk : knd.is k x = true) (hsc : x.scannable = true) (R : SetG knd s.heap a ks) (room : ks.length + 1 < scanBound)
    (hQ : ∀ b h', Heap.SameBut a s.heap h' → SetG knd h' a (insG k ks) → Q b { s with heap := h' }) :
    wpAny (model P w) A (setAddHashed a x (knd.hash k)) Q E s := by
  obtain ⟨o, es, ep, t, ho, hx, hd, T⟩ := id R
  unfold setAddHashed setAddHashedIn
  refine wpAny_holding (wpAny_bind (wpAny_setState_of ho hd T.2.2.2.1 ?_))
  dsimp only
  rw [byScan_of hsc T.2.2.1 T.elems]
  simp only [↓reduceIte]
  unfold setAddByScan
  refine wpAny_bind (wpAny_bind (wpAny_rule (wpAny_bind (wpAny_setScan_of hk ho hd T.2.2.2.1 T.elems ?_))))
  cases hfi : List.findIdx? (fun e => knd.is k e.2) es.toList with
  | some j =>
    dsimp only
    obtain ⟨hj, pj, _⟩ := List.findIdx?_eq_some_iff_getElem.mp hfi
    have m : k ∈ ks := (T.mem k).mp ⟨_, List.getElem_mem hj, pj⟩
    refine wpAny_pure (wpAny_pure (hQ _ s.heap (Heap.SameBut.refl a s.heap) ?_))
    rw [insG, if_pos m]
    exact R
  | none =>
    dsimp only
    have m : k ∉ ks := fun z => by
      obtain ⟨e, he, q⟩ := (T.mem k).mpr z
      have c := List.findIdx?_eq_none_iff.mp hfi e he
      rw [q] at c
      cases c
    have hQ' : ∀ h', Heap.SameBut a s.heap h' → SetG knd h' a (k :: ks) → Q true { s with heap := h' } := fun h' sb g => hQ true h' sb (by rw [insG, if_neg m]; exact g)
    obtain ⟨⟨ls, hp, hpm⟩, nd, hb, hf, hr, hl⟩ := id T
    have q1 := layNew_perm t es (knd.hash k) x
    have q2 := layNew_fits t es (knd.hash k) x
    have q3 := layNew_ris t es (knd.hash k) x hr
    have q4 := layNew_led t es (knd.hash k) x
    generalize layNew t es (knd.hash k) x = z at q1 q2 q3 q4 ⊢
    obtain ⟨es1, t1, dm, gv⟩ := z
    dsimp only at q1 q2 q3 q4 ⊢
    rw [Array.toList_push] at q1
    obtain ⟨ls', p', h'⟩ := paired_perm q1 (paired_snoc hp (show Ent knd k (knd.hash k, x) from ⟨hk, rfl, hsc⟩))
    have p2 : ls'.Perm (k :: ks) := p'.trans ((List.perm_append_singleton _ _).trans (hpm.cons _))
    have sz : es1.size = ks.length + 1 := by
      rw [← Array.length_toList, q1.length_eq, List.length_append, Array.length_toList, T.size]
      rfl
    have T1 : ∀ t2 : SetTable, t2.fits es1.size = true → t2.place = t1.place → t2.led = t1.led → Tab knd w es1 t2 (k :: ks) := fun t2 f2 e1 e2 =>
      ⟨⟨ls', h', p2⟩, List.nodup_cons.mpr ⟨m, nd⟩, by rw [sz]; exact room, f2, by rw [e1]; exact q3, hl.imp id fun z => by rw [e2, q4]; exact z⟩
    have told : ∀ (b : Bool) {s1 : Shared} {Q1 : Unit → Shared → Prop}, Q1 () s1 → wpAny (model P w) A (match b with | true => rule "set.scan.the-table-gave-way" | false => pure ()) Q1 E s1 := fun b s1 Q1 q => by
      cases b
      · exact wpAny_pure q
      · exact wpAny_rule q
    refine wpAny_bind (told _ ?_)
    split
    · refine wpAny_bind ?_
      rw [hashByValue_scannable 8 hsc]
      refine wpAny_pure ?_
      refine laid_tail (by intro b s1 Q1 q; cases b <;> first | exact wpAny_pure q | exact wpAny_rule q) (knd := knd) (ks' := k :: ks) ho hx hd (T1 _ ?_ ?_ ?_) fun h' sb g => wpAny_pure (hQ' h' sb g)
      · split
        · exact q2
        · exact SetTable.fits_plain_off q2
      · split <;> rfl
      · split <;> rfl
    · refine wpAny_bind (wpAny_pure ?_)
      simp only [↓reduceIte]
      exact laid_tail (by intro b s1 Q1 q; cases b <;> first | exact wpAny_pure q | exact wpAny_rule q) (knd := knd) (ks' := k :: ks) ho hx hd (T1 _ q2 rfl rfl) fun h' sb g => wpAny_pure (hQ' h' sb g)
end

/-! ### as a tracked thing; add; the comprehension; sorted -/
def SetKo (P : Program) (w : World) (a : Addr) (ks : List Key) : HO := .ext fun h => SetG (mixKind P w) h a ks
theorem setKo_new {P : Program} {w : World} {H : Hp} {h : Heap} {a : Addr} {ks : List Key} (R : SetG (mixKind P w) h a ks) : ObjOk P w H h a (SetKo P w a ks) := by
  obtain ⟨o, es, ep, t, ho, _⟩ := id R
  exact ⟨R, ⟨o, ho⟩, fun _ _ p k => SetG.at p k⟩
section
variable {X : Cx} {pins : List (Addr × Obj)} {σ : L2.St} {H : Hp} {s : Shared}
theorem setKo_get {a : Addr} {ks : List Key} (I : L2.Inv X pins σ H s) (ha : H a = some (SetKo X.prog X.w a ks)) : SetG (mixKind X.prog X.w) s.heap a ks := (I.hok a _ ha).1
theorem kV_sc {k : Key} {u : Value} (r : RelV (kV k) u) : keyIs k u = true ∧ u.scannable = true := by
  cases k with
  | inl i =>
    obtain ⟨t, rfl⟩ := r
    exact ⟨keyIs_int i t, rfl⟩
  | inr x =>
    obtain ⟨t, rfl⟩ := r
    exact ⟨keyIs_str x t, rfl⟩
theorem addK_ok {E : Value → Shared → Prop} {D : Addr} {ks : List Key} {k : Key} {u : Value} {Q : Value → Shared → Prop} (I : L2.Inv X pins σ H s) (hD : H D = some (SetKo X.prog X.w D ks)) (r : RelV (kV k) u) (room : ks.length + 1 < scanBound)
    (h : ∀ s', L2.Inv X pins σ (upd H D (SetKo X.prog X.w D (insG k ks))) s' → Q .none s') : wpAny (model X.prog X.w) X.A (call (.builtin "set.add") [.ref D, u]) Q E s := by
  have R := setKo_get I hD
  obtain ⟨hk, hsc⟩ := kV_sc r
  refine wpAny_call_entry F.slot_set_add R.setOf.typeIs F.entry_set_add ?_ (F.args_set_add_2 _ _)
  unfold Builtin.«set.add» Builtin.Frozenset.oneOther
  simp only [List.isEmpty_nil, bind_assoc]
  unfold Builtin.Frozenset.addrOf setAdd
  refine wpAny_bind (wpAny_pure ?_)
  try dsimp only
  refine wpAny_bind (wpAny_pure ?_)
  try dsimp only
  refine wpAny_bind (wpAny_holding (wpAny_bind ((mixKind X.prog X.w).pyHash (k := k) hk ?_)))
  refine addG_hashed (knd := mixKind X.prog X.w) (s := { s with toks := s.toks + 1 }) hk hsc R room fun b h' sb new => ?_
  show wpAny _ _ (ret Value.none) _ _ _
  obtain ⟨o, _, _, _, ho, _⟩ := id new
  exact wpAny_pure ⟨_, rfl, h _ (I.write (e := D) (t' := s.toks + 1) (by rw [hD]; trivial) (.inl rfl) (fun b u hb hu => (sb.2 b hb).trans hu) ⟨o, ho⟩ (setKo_new new))⟩
end
section
variable {X : Cx}
def tScK (P : Program) (w : World) (wi : TI) (g : TG) (tt : TT) (te : TE) (vs : List Nat) : TE := fun σ H Q => wi σ H fun J H1 => ∀ D, H1 D = none → ∃ W : Nat → Nat → Hp → Prop, (∃ m, W 0 m (upd H1 D (SetKo P w D []))) ∧ ∀ i m H, W i m H →
  (J.stop i H ∧ Q (.ref D) H) ∨ (J.go i H ∧ ∃ Nx : Hp → Prop, (∀ H', Nx H' → ∃ m', m' < m ∧ W (i + 1) m' H') ∧ ∀ x H', J.yld i H x H' → g x (wipe σ vs) H' fun σ2 H2 => wipe σ2 vs = wipe σ vs ∧ tt σ2 H2 fun b H3 =>
    if b = true then te σ2 H3 fun y H4 => ∃ (k : Key) (ks : List Key), y = kV k ∧ H4 D = some (SetKo P w D ks) ∧ ks.length + 1 < scanBound ∧ Nx (upd H4 D (SetKo P w D (insG k ks))) else Nx H3)
theorem pe_scK {elt tg iter : Expr} {ifs : List Expr} {scope : Scope} {own : List (Str × Nat)} {pos : Pos} {wi : TI} {g : TG} {tt : TT} {te : TE} (hc : X.calm = true) (hN : X.N.Nodup) (hi : PI X tg iter wi) (ok : BlkOk X.N X.env.scope scope own)
    (hg : ∀ (s : Shared) (H : Hp) (C : Addr) (cl : List (Str × Addr)) (fp : List Addr), PG (X.blk s H scope (compEnvC scope cl C X.env) fp) tg g) (ht : ∀ (s : Shared) (H : Hp) (C : Addr) (cl : List (Str × Addr)) (fp : List Addr), PTs (X.blk s H scope (compEnvC scope cl C X.env) fp) ifs tt)
    (he : ∀ (s : Shared) (H : Hp) (C : Addr) (cl : List (Str × Addr)) (fp : List Addr), PE (X.blk s H scope (compEnvC scope cl C X.env) fp) elt te) (hs : ∀ x, foldedSetIterable iter X.env x = pure x := by intro _; rfl) :
    PE X (.SetComp elt [⟨tg, iter, ifs, 0⟩] scope pos) (tScK X.prog X.w wi g tt te (own.map (·.2))) := by
  refine ⟨fun pins s σ H Q I h => ?_⟩
  rw [PpSet.eval_SetComp]
  refine wpAny_comprehension_free (use := none) rfl hs (closure_ok fun y hy e => (ok.free y hy e).elim (fun k => I.ok.has _ (.inl k)) fun k => I.ok.has _ (.inr k)) ok.kind (fun y hy e => by rw [ok.uniq y hy, e])
    (thn (hi.run pins s σ H _ I h) fun xv s1 hx => thn hx fun itv s2 h2 => ?_)
  obtain ⟨it, fp, tn, J, H2, rfl, I2, T, st2, f2, q⟩ := h2
  refine PpSet.newSet_ok (newEnv_comp ?_)
  obtain ⟨W, ⟨m0, w0⟩, turn⟩ := q s2.heap.objs.size (I2.hok.fresh (Nat.le_refl _))
  have I3 : L2.Inv X pins σ (upd H2 s2.heap.objs.size (SetKo X.prog X.w s2.heap.objs.size [])) { s2 with heap := s2.heap.push { cls := .type "set", dict := none, data := .set #[] 0 (.fresh 0 0 (!X.w.params.followText "set-order")) } } :=
    I2.laid (t' := s2.toks) (fun b o e => Heap.get?_push_of_some _ e) (Nat.le_refl _) (setKo_new SetG.fresh)
  have lt2 : ∀ b ∈ fp, b < s2.heap.objs.size := fun b hb => let ⟨_, e, _⟩ := T.obj _ _ st2 b hb; Heap.lt_size e
  generalize hD : s2.heap.objs.size = D at I3 w0 turn lt2
  generalize hS : ({ s2 with heap := s2.heap.push { cls := .type "set", dict := none, data := .set #[] 0 (.fresh 0 0 (!X.w.params.followText "set-order")) } } : Shared) = s3 at I3
  have h3 : s3.heap = s2.heap.push { cls := .type "set", dict := none, data := .set #[] 0 (.fresh 0 0 (!X.w.params.followText "set-order")) } := by rw [← hS]
  have st3 : tn 0 s3.heap := T.keep _ _ _ st2 fun b _ o e => by rw [h3]; exact Heap.get?_push_of_some _ e
  generalize hH : upd H2 D (SetKo X.prog X.w D []) = H3 at I3 w0
  have f3 : ∀ b ∈ fp, FpOk X pins H3 b ∧ b < s3.heap.objs.size := fun b hb => by
    refine ⟨⟨?_, (f2 b hb).2⟩, by rw [h3, Heap.size_push, hD]; exact Nat.lt_succ_of_lt (lt2 b hb)⟩
    rw [← hH, upd_ne (Nat.ne_of_lt (lt2 b hb))]
    exact (f2 b hb).1
  have I4 := block_start I3 ok hN f3
  have pg := hg s3 H3 s3.heap.objs.size (cellsFrom (s3.heap.objs.size + 1) scope.names (cloFrom X.env.cells scope.names [])) fp
  have pt := ht s3 H3 s3.heap.objs.size (cellsFrom (s3.heap.objs.size + 1) scope.names (cloFrom X.env.cells scope.names [])) fp
  have pe := he s3 H3 s3.heap.objs.size (cellsFrom (s3.heap.objs.size + 1) scope.names (cloFrom X.env.cells scope.names [])) fp
  suffices goal : codeAny (model X.prog X.w) X.A (.compStart (.SetComp elt [⟨tg, iter, ifs, 0⟩] scope pos) 0 (.ref it) (.ref D) (compEnvC scope (cellsFrom (s3.heap.objs.size + 1) scope.names (cloFrom X.env.cells scope.names [])) s3.heap.objs.size X.env))
      (compPost (model X.prog X.w) X.A X.xe none (EP X pins σ Q) (.ref D) s3.heap.objs.size) { s3 with heap := pushCells (s3.heap.push { cls := .type "dict", data := .dict #[] }) scope.names } by
    subst hD
    subst hS
    exact goal
  generalize hce : compEnvC scope (cellsFrom (s3.heap.objs.size + 1) scope.names (cloFrom X.env.cells scope.names [])) s3.heap.objs.size X.env = ce at I4 pg pt pe ⊢
  have cL : ce.locals = s3.heap.objs.size := by subst hce; rfl
  generalize hs4 : ({ s3 with heap := pushCells (s3.heap.push { cls := .type "dict", data := .dict #[] }) scope.names } : Shared) = s4 at I4 ⊢
  have st4 : tn 0 s4.heap := T.keep _ _ _ st3 fun b _ o e => by rw [← hs4]; exact pushCells_keeps _ _ _ _ (Heap.get?_push_of_some _ e)
  have fpB : ∀ {σ' : L2.St} {H' : Hp} {s' : Shared}, L2.Inv (X.blk s3 H3 scope ce fp) [] σ' H' s' → (∀ b ∈ fp, H' b = none) → ∀ b ∈ fp, FpOk (X.blk s3 H3 scope ce fp) [] H' b := fun I' n b hb =>
    ⟨n b hb, (I'.ok.exf b hb).1, I'.ok.exfs b hb, .inl hb, fun x c e => (I'.ok.exf b hb).2 x c e, fun p hp => absurd (show p ∈ ([] : List (Addr × Obj)) ++ [] from hp) (by simp)⟩
  have round : codeAny (model X.prog X.w) X.A (.compLoop (.SetComp elt [⟨tg, iter, ifs, 0⟩] scope pos) 0 (.ref it) (.ref D) ce) (compPost (model X.prog X.w) X.A X.xe none (EP X pins σ Q) (.ref D) s3.heap.objs.size) s4 := by
    refine PpSet.compLoopS_any (fun n s' => ∃ i H', L2.Inv (X.blk s3 H3 scope ce fp) [] (wipe σ (own.map (·.2))) H' s' ∧ tn i s'.heap ∧ (∀ b ∈ fp, H' b = none) ∧ W i n H') ?_ m0 ⟨0, H3, I4, st4, fun b hb => (f3 b hb).1.1, w0⟩
    rintro n s5 ⟨i, H5, I5, st5, n5, w5⟩
    rcases turn i n H5 w5 with ⟨stop, q5⟩ | ⟨go, Nx, hNx, step⟩
    · refine thnF (T.done (X.blk s3 H3 scope ce fp) rfl rfl rfl hc i [] s5 _ H5 (fun _ _ => False) I5 (fpB I5 n5) st5 stop) fun r s6 ⟨hr, I6⟩ => ?_
      subst hr
      have I7 : L2.Inv X pins σ H5 s6 := I3.call' (ch := fp) I6.os I6.base I6.hok I6.bare fun b hb => ⟨(f3 b hb).1.2.2.2.1, (f3 b hb).1.2.1, (f3 b hb).1.2.2.2.2.1, (f3 b hb).1.2.2.2.2.2⟩
      have nC : H5 s3.heap.objs.size = none := by
        have z : H5 ce.locals = none := I6.free
        rwa [cL] at z
      obtain ⟨m, hn, _⟩ := I6.loc
      have hn' : s6.heap.Ns s3.heap.objs.size m := by
        rw [← cL]
        exact hn
      obtain ⟨f0, f1, g2, g3, g4, g5⟩ := I3.fpOk (b := s3.heap.objs.size) (Nat.le_refl _) nC
      exact ⟨m, hn', fun h'' sb => ⟨.ref D, H5, I7.turned (t' := s6.toks) (fun b o hb e => (sb.2 b hb).trans e) f0 f1 g3 g4 g5, rfl, q5⟩⟩
    · refine thnF (T.item (X.blk s3 H3 scope ce fp) rfl rfl rfl hc i [] s5 _ H5 (fun _ _ => False) I5 (fpB I5 n5) st5 go) fun r s6 ⟨u, hr, h6⟩ => ?_
      subst hr
      refine thnF h6 fun _ s7 ⟨x, H7, I7, r7, y7, st7, n7⟩ => ?_
      refine thnF (pg.run _ s7 _ H7 x u _ (I7.pinned (fpB I7 n7) (T.obj _ _ st7)) r7 (step x H7 y7)) fun _ s8 ⟨σ8, H8, I8, hw8, q8⟩ => ?_
      refine thnF (pt.run _ s8 σ8 H8 _ I8 q8) fun b s9 ⟨H9, I9, q9⟩ => ?_
      have turned : ∀ {s' : Shared} {H' : Hp}, L2.Inv (X.blk s3 H3 scope ce fp) ([] ++ pinsAt fp s7.heap) σ8 H' s' → Nx H' → ∃ m, m < n ∧ ∃ i H', L2.Inv (X.blk s3 H3 scope ce fp) [] (wipe σ (own.map (·.2))) H' s' ∧ tn i s'.heap ∧ (∀ b ∈ fp, H' b = none) ∧ W i m H' := fun {s' H'} I' nx => by
        obtain ⟨m', hm, w'⟩ := hNx H' nx
        have stay : ∀ b ∈ fp, ∀ o, s7.heap.get? b = some o → s'.heap.get? b = some o ∧ H' b = none := fun b hb o e => by
          obtain ⟨z1, z2, _⟩ := I'.pin (b, o) (List.mem_append_right _ (List.mem_append_right _ (mem_pinsAt hb e)))
          exact ⟨z1, z2⟩
        refine ⟨m', hm, i + 1, H', (I'.unpinned (pins := [])).weak (by rw [← hw8, wipe_length]) (fun j v e => ?_), T.keep _ _ _ st7 fun b hb o e => (stay b hb o e).1, fun b hb => ?_, w'⟩
        · rw [← hw8] at e
          exact (wipe_some e).1
        · obtain ⟨o, e, _⟩ := T.obj _ _ st7 b hb
          exact (stay b hb o e).2
      cases b with
      | false =>
        rw [if_neg Bool.false_ne_true] at q9
        rw [if_neg Bool.false_ne_true]
        exact turned I9 q9
      | true =>
        rw [if_pos rfl] at q9
        rw [if_pos rfl]
        refine thnF (pe.run _ s9 σ8 H9 _ I9 q9) fun z s10 ⟨yv, H10, I10, r10, kk, ks, ey, hD10, room, nx⟩ => ?_
        subst ey
        exact addK_ok (X := X.blk s3 H3 scope ce fp) I10 hD10 r10 room fun s11 I11 => turned I11 nx
  exact PpSet.codeAny_compStart_set round (T.self X.A 0 _ _ _ st4 round)
end
end WW

set_option Elab.async false
set_option linter.all false
set_option maxRecDepth 100000
set_option maxHeartbeats 4000000
namespace WW
open PySem PySem.Spec PyProof.Rows L2
/-! ### sorted of data: a list, a tuple, a set of texts -/
def leD (x y : V × PyData) : Bool := PySem.W.dataLe false (fun z : V × PyData => z.2) x y
def srtD (xs : List (V × PyData)) : List V := (xs.mergeSort (PySem.W.dataLe false fun z : V × PyData => z.2)).map (·.1)
section
variable {X : Cx} {pins : List (Addr × Obj)} {σ : L2.St} {H : Hp} {s : Shared}
theorem vals_each {R : Value → V × PyData → Prop} : ∀ {xs : List (V × PyData)} {vs : List Value}, Vals (xs.map (·.1)) vs → (∀ x u, x ∈ xs → RelV x.1 u → R u x) → PySem.W.EachIs R vs xs
  | [], _, h, _ => by cases h; exact .nil
  | x :: xs, _, h, f => by
    cases h with
    | cons r t => exact .cons (f x _ (by simp) r) (vals_each t fun y u hy => f y u (by simp [hy]))
theorem each_vals : ∀ {xs : List (V × PyData)} {vs : List Value}, PySem.W.EachIs (fun u (x : V × PyData) => RelV x.1 u) vs xs → Vals (xs.map (·.1)) vs
  | [], _, h => by cases h; exact .nil
  | x :: xs, _, h => by
    cases h with
    | cons r t => exact .cons r (each_vals t)
/-- what stands behind sorted's gathering of the items -/
theorem sort_tail {A : Around} {E : Value → Shared → Prop} {Q : VK} {xs : List (V × PyData)} {vs : List Value} (I : L2.Inv X pins σ H s) (r : Vals (xs.map (·.1)) vs) (hd : ∀ x ∈ xs, Dp X.K H x.1 x.2)
    (hal : PySem.W.AllAlike (xs.map (·.2))) (hso : PySem.W.Sortable (xs.map (·.2))) (hn : xs.length ≤ sizeLine) (hu : ∀ x ∈ xs, A.units + 1 + x.2.depth < cLine)
    (q : ∀ p, H p = none → Q (.ref p) (upd H p (.lst (srtD xs)))) :
    wpAny (model X.prog X.w) A (do
      let l ← newList vs
      let _ ← holding [l] (call (.builtin "list.sort") [l])
      ret l) (fun fin s' => ∃ v, fin = Fin.done (Flow.ret v) ∧ EP X pins σ Q v s') E s := by
  have hvl : vs.length = xs.length := by rw [← r.length, List.length_map]
  refine wpAny_bind (wpAny_newList ?_ (by rw [hvl]; exact hn))
  have hat : (s.heap.push (seqObj "list" vs.toArray 0)).get? s.heap.objs.size = some (seqObj "list" vs.toArray 0) := Heap.get?_push_size _ rfl
  have er : PySem.W.EachIs (fun v (b : V × PyData) => ∃ as, Reads (PySem.W.sortingHeap (s.heap.push (seqObj "list" vs.toArray 0)) s.heap.objs.size vs) v b.2 as) vs xs := vals_each r fun x u hx ru => by
    obtain ⟨as, hr⟩ := Dp.reads I x.2 x.1 u (hd x hx) ru
    exact ⟨as, PyProof.Rows.Reads.keeps (fun b o e => PySem.W.sortingHeap_old (Nat.ne_of_lt (Heap.lt_size e)) (Heap.get?_push_of_some _ e)) hr⟩
  have ev : PySem.W.EachIs (fun u (x : V × PyData) => RelV x.1 u) vs xs := vals_each r fun x u _ ru => ru
  show wpAny _ _ _ _ _ { s with heap := s.heap.push (seqObj "list" vs.toArray 0) }
  refine wpAny_bind (wpAny_holding (wpAny_call_entry slot_list_sort ⟨_, hat, rfl⟩ entry_list_sort
    (PySem.W.list_sort_vals (κ := PySem.W.dataKind (PySem.W.sortingHeap (s.heap.push (seqObj "list" vs.toArray 0)) s.heap.objs.size vs) (xs.map (·.2))) (s := { s with heap := s.heap.push (seqObj "list" vs.toArray 0) }) hat
      (PySem.W.SortsAt.data (PySem.W.each_map (fun b : V × PyData => b.2) er) hal hso (PySem.W.bound_map hu)) (by rw [hvl]; exact hn) ⟨_, rfl, ?_⟩) (args_list_sort _)))
  have eo := PySem.W.sortVals_data false ev er hal
  generalize PySem.W.sortVals (PySem.W.dataKind (PySem.W.sortingHeap (s.heap.push (seqObj "list" vs.toArray 0)) s.heap.objs.size vs) (xs.map (·.2))) false vs vs = out at eo ⊢
  have rv := each_vals eo
  obtain ⟨ep, ho⟩ := sortedHeap_at (vs := vs) (out := out.toArray) hat
  have hl : (srtD xs).length ≤ sizeLine := by
    unfold srtD
    rw [List.length_map, List.length_mergeSort]
    exact hn
  refine wpAny_pure ⟨_, rfl, .ref s.heap.objs.size, upd H s.heap.objs.size (.lst (srtD xs)), I.laid (t' := s.toks) (fun b u e => ?_) (Nat.le_refl _) ⟨hl, out, ep, rv, ho⟩, rfl, q _ (I.hok.fresh (Nat.le_refl _))⟩
  have hb := Heap.lt_size e
  rw [sortedHeap_old (Nat.ne_of_lt hb) (by rw [size_push']; exact Nat.lt_succ_of_lt hb)]
  exact Heap.get?_push_of_some _ e
/-- sorted(xs), xs a list or a tuple of data -/
def rSortedQ (K : PySem.W.Frag) : List V → Hp → VK → Prop := fun vs H Q => ∃ (a : Addr) (xs : List (V × PyData)), vs = [.ref a] ∧ (SqL K H a (xs.map (·.1)) ∨ SqT K H a (xs.map (·.1))) ∧ (∀ x ∈ xs, Dp K H x.1 x.2) ∧
  PySem.W.AllAlike (xs.map (·.2)) ∧ PySem.W.Sortable (xs.map (·.2)) ∧ (∀ x ∈ xs, x.2.depth ≤ 64) ∧ ∀ p, H p = none → Q (.ref p) (upd H p (.lst (srtD xs)))
theorem cr_sortedD (hu : X.A.units + 70 < cLine) : CallR X (.builtin "sorted") (rSortedQ X.K) := by
  intro pins s σ H us vs Q I r h
  obtain ⟨a, xs, rfl, hs, hd, hal, hso, hdp, q⟩ := h
  rw [Vals.ref1 r]
  have go : ∀ (its : List Value) (T : String) (o : Obj) (n : Nat), (T = "list" ∨ T = "tuple") → s.heap.get? a = some o → o.cls = .type T → o.data = .seq its.toArray n → Vals (xs.map (·.1)) its → (xs.map (·.1)).length ≤ sizeLine →
      wpAny (model X.prog X.w) X.A (call (.builtin "sorted") [.ref a]) (EP X pins σ Q) X.xe s := fun its T o n hT ho hc hdt rv hz => by
    rw [List.length_map] at hz
    refine Calls.call_function_entry kind_sorted plain_sorted entry_sorted (args_sorted1 _) ?_
    unfold Builtin.«sorted»
    refine wpAny_bind (m := checkCount "sorted" 1 1 _) (wpAny_pure ?_)
    refine wpAny_bind (wpAny_collect_seq a hT ho hc hdt (fun h' hk => ?_) (by rw [List.size_toArray, ← rv.length, List.length_map]; exact hz))
    have I1 : L2.Inv X pins σ H { s with heap := h' } := I.kept (t' := s.toks) hk
    refine sort_tail (A := X.A.in1) (Q := Q) I1 rv hd hal hso hz (fun x hx => ?_) q
    have h1 := hdp x hx
    show X.A.units + 1 + 1 + x.2.depth < cLine
    omega
  rcases hs with hs | hs
  · obtain ⟨its, rv, ⟨o, n, ho, hc, _, hdt⟩, hz⟩ := I.list hs
    exact go its "list" o n (.inl rfl) ho hc hdt rv hz
  · obtain ⟨its, rv, ⟨o, ho, hc, n, hdt⟩, hz⟩ := I.tuple hs
    exact go its "tuple" o n (.inr rfl) ho hc hdt rv hz
/-- sorted of a set of texts -/
def rSortedSt (P : Program) (w : World) : List V → Hp → VK → Prop := fun vs H Q => ∃ (a : Addr) (ks : List Str), vs = [.ref a] ∧ H a = some (SetKo P w a (ks.map Sum.inr)) ∧
  ∀ p (ys : List Str), ys.Perm ks → H p = none → Q (.ref p) (upd H p (.lst (srtD (ys.map fun z => (V.str z, PyData.str z)))))
theorem cr_sortedSt (hc : X.calm = true) (hu : X.A.units + 70 < cLine) : CallR X (.builtin "sorted") (rSortedSt X.prog X.w) := by
  intro pins s σ H us vs Q I r h
  obtain ⟨a, ks, rfl, ha, q⟩ := h
  rw [Vals.ref1 r]
  obtain ⟨o, es, ep, t, ho, hx, hd, T⟩ := setKo_get I ha
  refine Calls.call_function_entry kind_sorted plain_sorted entry_sorted (args_sorted1 _) ?_
  unfold Builtin.«sorted»
  refine wpAny_bind (m := checkCount "sorted" 1 1 _) (wpAny_pure ?_)
  refine wpAny_bind (collect_set (A := X.A.in1) (show X.A.in1.handled = none from I.ok.hd hc) ⟨o, ho, hx.1, hd⟩ T.2.2.2.1 T.2.2.1 T.2.2.2.2.1 T.2.2.2.2.2 fun s1 out hk hsz hg hos hp => ?_)
  obtain ⟨ys, py, ry⟩ : ∃ ys : List Str, ys.Perm ks ∧ Vals (ys.map V.str) out := by
    obtain ⟨ls, pl, pk⟩ := T.1
    have p1 : Paired (fun (k : Key) (u : Value) => RelV (kV k) u) ls (es.toList.map (·.2)) := by
      clear pk
      generalize es.toList = el at pl
      clear hp
      induction pl with
      | nil => exact .nil
      | cons r t ih =>
        refine .cons ?_ ih
        obtain ⟨r1, _⟩ := r
        rcases keyIs_shape r1 with ⟨i, t, rfl, e⟩ | ⟨x, t, rfl, e⟩
        · exact ⟨t, e⟩
        · exact ⟨t, e⟩
    obtain ⟨l2, p2, h2⟩ := paired_perm hp p1
    have p3 : l2.Perm (ks.map Sum.inr) := p2.trans pk
    clear p1 p2 pl pk hp
    have hall : ∀ k ∈ l2, ∃ z, k = Sum.inr z := fun k hk => by
      obtain ⟨z, _, e⟩ := List.mem_map.mp (p3.mem_iff.mp hk)
      exact ⟨z, e.symm⟩
    have hz : ∃ ys : List Str, l2 = ys.map Sum.inr := by
      clear h2 p3
      induction l2 with
      | nil => exact ⟨[], rfl⟩
      | cons k l ih =>
        obtain ⟨z, rfl⟩ := hall k (by simp)
        obtain ⟨ys, rfl⟩ := ih fun k hk => hall k (by simp [hk])
        exact ⟨z :: ys, rfl⟩
    obtain ⟨ys, rfl⟩ := hz
    have p4 := p3.map fun (k : Key) => match k with
      | .inr z => z
      | .inl _ => Str.empty
    rw [List.map_map, List.map_map] at p4
    have e4 : ∀ l : List Str, l.map ((fun (k : Key) => match k with
      | .inr z => z
      | .inl _ => Str.empty) ∘ Sum.inr) = l := fun l => by
      induction l with
      | nil => rfl
      | cons x r ih =>
        rw [List.map_cons, ih]
        rfl
    rw [e4, e4] at p4
    refine ⟨ys, p4, ?_⟩
    clear p3 hall p4
    induction ys generalizing out with
    | nil => cases h2; exact .nil
    | cons y ys ih =>
      cases h2 with
      | cons r t => exact .cons r (ih _ t)
  have I1 : L2.Inv X pins σ H s1 := by
    obtain ⟨h1, g1, d1, t1, o1⟩ := s1
    have e1 : g1 = s.gens := hg
    have e2 : o1 = s.os := hos
    subst e1 e2
    exact I.call' (ch := []) rfl (Un.kept hk) (I.hok.kept hk) I.bare (fun _ z => nomatch z)
  have em : (ys.map fun z => (V.str z, PyData.str z)).map (·.1) = ys.map V.str := by rw [List.map_map]; rfl
  have e2 : (ys.map fun z => (V.str z, PyData.str z)).map (·.2) = ys.map PyData.str := by rw [List.map_map]; rfl
  refine sort_tail (A := X.A.in1) (Q := Q) (xs := ys.map fun z => (V.str z, PyData.str z)) I1 (by rw [em]; exact ry) ?_ ?_ ?_ ?_ ?_ (fun p hp => q p ys py hp)
  · intro x hx
    obtain ⟨z, _, rfl⟩ := List.mem_map.mp hx
    exact .str z
  · rw [e2]
    exact PySem.W.AllAlike.of fun b b' => rfl
  · rw [e2]
    exact PySem.W.Sortable.others fun b => ⟨(fun e => by cases e), (fun xs e => by cases e)⟩
  · rw [List.length_map, py.length_eq]
    have h1 := T.size
    have h2 := T.2.2.1
    rw [h1, List.length_map] at h2
    exact fits_of_scanBound h2
  · intro x hx
    obtain ⟨z, _, rfl⟩ := List.mem_map.mp hx
    show X.A.units + 1 + 1 + PyData.depth (.str z) < cLine
    have : PyData.depth (.str z) ≤ 1 := by simp [PyData.depth]
    omega
end
end WW

set_option Elab.async false
set_option linter.all false
set_option maxRecDepth 100000
set_option maxHeartbeats 4000000
namespace WW
open PySem PySem.Spec PyProof.Rows L2
/-! ### set(row), the row's items keys of one kind -/
def insAll {κ : Type} [DecidableEq κ] (l : List κ) : List κ := l.foldl (fun acc k => insG k acc) []
theorem paired_getR {α β : Type} {R : α → β → Prop} : ∀ {ls : List α} {l : List β} {i : Nat} {y : β}, Paired R ls l → l[i]? = some y → ∃ x, ls[i]? = some x ∧ R x y
  | _, _, _, _, .nil, e => by simp at e
  | _, _, 0, _, .cons r _, e => by simp at e; subst e; exact ⟨_, rfl, r⟩
  | _, _, i + 1, y, .cons _ t, e => by
    obtain ⟨u, h1, h2⟩ := paired_getR (i := i) (y := y) t (by simpa using e)
    exact ⟨u, by simpa using h1, h2⟩
theorem insAll_snoc {κ : Type} [DecidableEq κ] (l : List κ) (k : κ) : insAll (l ++ [k]) = insG k (insAll l) := by
  unfold insAll
  rw [List.foldl_append]
  rfl
theorem insG_mem {κ : Type} [DecidableEq κ] (k x : κ) (l : List κ) : x ∈ insG k l ↔ x = k ∨ x ∈ l := by
  unfold insG
  split
  · rename_i h
    constructor
    · exact .inr
    · rintro (rfl | h')
      · exact h
      · exact h'
  · rw [List.mem_cons]
theorem insG_nodup {κ : Type} [DecidableEq κ] {k : κ} {l : List κ} (h : l.Nodup) : (insG k l).Nodup := by
  unfold insG
  split
  · exact h
  · rename_i hk
    exact List.nodup_cons.mpr ⟨hk, h⟩
theorem insG_len {κ : Type} [DecidableEq κ] (k : κ) (l : List κ) : (insG k l).length ≤ l.length + 1 := by
  unfold insG
  split
  · omega
  · rw [List.length_cons]
    omega
theorem fold_mem {κ : Type} [DecidableEq κ] (x : κ) : ∀ (l acc : List κ), x ∈ l.foldl (fun acc k => insG k acc) acc ↔ x ∈ l ∨ x ∈ acc
  | [], acc => by simp
  | k :: r, acc => by
    rw [List.foldl_cons, fold_mem x r, insG_mem, List.mem_cons]
    constructor
    · rintro (h | h | h)
      · exact .inl (.inr h)
      · exact .inl (.inl h)
      · exact .inr h
    · rintro ((h | h) | h)
      · exact .inr (.inl h)
      · exact .inl h
      · exact .inr (.inr h)
theorem fold_nodup {κ : Type} [DecidableEq κ] : ∀ (l acc : List κ), acc.Nodup → (l.foldl (fun acc k => insG k acc) acc).Nodup
  | [], _, h => h
  | _ :: r, _, h => fold_nodup r _ (insG_nodup h)
theorem fold_len {κ : Type} [DecidableEq κ] : ∀ (l acc : List κ), (l.foldl (fun acc k => insG k acc) acc).length ≤ acc.length + l.length
  | [], acc => by simp
  | k :: r, acc => by
    have h1 := fold_len r (insG k acc)
    have h2 := insG_len k acc
    rw [List.foldl_cons, List.length_cons]
    omega
theorem insAll_mem {κ : Type} [DecidableEq κ] (x : κ) (l : List κ) : x ∈ insAll l ↔ x ∈ l := by
  unfold insAll
  rw [fold_mem]
  simp
theorem insAll_nodup {κ : Type} [DecidableEq κ] (l : List κ) : (insAll l).Nodup := fold_nodup l [] List.nodup_nil
theorem insAll_len {κ : Type} [DecidableEq κ] (l : List κ) : (insAll l).length ≤ l.length := by
  have := fold_len l []
  simpa [insAll] using this
section
variable {P : Program} {w : World} {κ : Type} [DecidableEq κ] {knd : PySem.KeyKind P w κ} {A : Around} {E : Value → Shared → Prop} {s : Shared}
theorem upd_keys {I : Addr} {fp wr : List Addr} {G : Array GenState → Array GenState → Prop} {n : Nat} {Pv : Nat → Value → Prop} {St : Nat → Shared → Prop} {R : Result → Shared → Prop}
    (W : WalksS P w A.in1 I fp wr G n Pv St) (S : Addr) (hSf : S ∉ fp) (ks : List κ) (hn : n = ks.length) (hfew : ks.length + 1 < scanBound) (hval : ∀ i v, Pv i v → ∃ k, ks[i]? = some k ∧ knd.is k v = true ∧ v.scannable = true)
    (h0 : Heap) (hS0 : h0.get? S = none) (hw0 : ∀ b ∈ wr, h0.get? b = none) :
    ∀ (k i : Nat) (s : Shared), n - i = k → i ≤ n → St i s → (∀ b o, h0.get? b = some o → s.heap.get? b = some o) → SetG knd s.heap S (insAll (ks.take i)) →
      (∀ s', Moved (S :: wr) G s s' → SetG knd s'.heap S (insAll ks) → (∀ b o, h0.get? b = some o → s'.heap.get? b = some o) → R (.ok (.ret .none)) s') →
      codeAny (model P w) A (.builtin "set.update.loop" ⟨[.ref S, .ref I], []⟩) R s := by
  have hSw : S ∉ wr := fun h => hSf (W.sub _ h)
  have hsub : ∀ b ∈ wr, b ∈ S :: wr := fun b hb => List.mem_cons_of_mem _ hb
  have keepM : ∀ {s s' : Shared}, Moved wr G s s' → (∀ b o, h0.get? b = some o → s.heap.get? b = some o) → ∀ b o, h0.get? b = some o → s'.heap.get? b = some o := fun hm hkp b o e =>
    hm.heap b o (fun hb => by rw [hw0 b hb] at e; cases e) (hkp b o e)
  intro k
  induction k with
  | zero =>
    intro i s hk' hi hst hkp hS hR
    have hin : i = n := by omega
    subst hin
    refine codeAny_builtin F.entry_set_update_loop ?_
    rw [Around.under_plainId F.plain_set_update_loop _]
    show wpAny _ A.in1 (pyNext (.ref I) >>= _) _ _ s
    refine wpAny_bind (W.done s _ _ hst fun s' hm => ?_)
    show wpAny _ A.in1 (ret Value.none) _ _ s'
    rw [hn, List.take_length] at hS
    exact wpAny_pure (hR s' (hm.mono hsub) (hS.at fun o e => hm.heap S o hSw e) (keepM hm hkp))
  | succ k ih =>
    intro i s hk' hi hst hkp hS hR
    have hlt : i < n := by omega
    refine codeAny_builtin F.entry_set_update_loop ?_
    rw [Around.under_plainId F.plain_set_update_loop _]
    show wpAny _ A.in1 (pyNext (.ref I) >>= _) _ _ s
    refine wpAny_bind (W.item i s _ _ hlt hst fun v s' hP hst' hm => ?_)
    obtain ⟨ky, hky, his, hsc⟩ := hval i v hP
    have hkp' := keepM hm hkp
    have hS' : SetG knd s'.heap S (insAll (ks.take i)) := hS.at fun o e => hm.heap S o hSw e
    have hroom : (insAll (ks.take i)).length + 1 < scanBound := by
      have h1 := insAll_len (ks.take i)
      rw [List.length_take] at h1
      omega
    show wpAny _ A.in1 (holding [v] (setAdd S v) >>= _) _ _ s'
    refine wpAny_bind (wpAny_holding ?_)
    unfold setAdd
    refine wpAny_holding ?_
    refine wpAny_bind (knd.pyHash (k := ky) his ?_)
    refine addG_hashed (knd := knd) (s := { s' with toks := s'.toks + 1 }) his hsc hS' hroom fun b h' hsb hS2 => ?_
    have e2 : insG ky (insAll (ks.take i)) = insAll (ks.take (i + 1)) := by
      rw [← insAll_snoc, List.take_add_one, hky]
      rfl
    rw [e2] at hS2
    have hkp2 : ∀ b o, h0.get? b = some o → h'.get? b = some o := fun b o e => (hsb.2 b (fun z => by rw [z, hS0] at e; cases e)).trans (hkp' b o e)
    refine wpAny_pure ⟨plainId_quiet F.plain_set_update_loop _, ih (i + 1) _ (by omega) hlt (W.frame _ s' _ _ hst' (Nat.le_add_right _ _) fun b hb o e => ?_) hkp2 hS2 fun s'' hm'' hS'' hkp'' => ?_⟩
    · rw [hsb.2 b (fun h : b = S => hSf (by rw [← h]; exact hb))]
      exact e
    · refine hR s'' (Moved.trans W.gtrans ((hm.mono hsub).then_heap (Nat.le_add_right _ _) fun b o hb e => ?_) hm'') hS'' hkp''
      rw [hsb.2 b (fun h : b = S => hb (by rw [h]; exact List.mem_cons_self))]
      exact e
theorem call_setG {l : Addr} {items : Array Value} (ks : List κ) {Q : Value → Shared → Prop} (hh : A.handled = none) (hl : s.heap.IsList l items) (hit : Paired (fun k (v : Value) => knd.is k v = true ∧ v.scannable = true) ks items.toList) (hfew : ks.length + 1 < scanBound)
    (h : ∀ (h' : Heap) (tk : Nat), SetG knd h' s.heap.objs.size (insAll ks) → (∀ b o, s.heap.get? b = some o → h'.get? b = some o) → Q (.ref s.heap.objs.size) { s with heap := h', toks := tk }) :
    wpAny (model P w) A (call (.type "set") [.ref l]) Q E s := by
  have hisz : items.size = ks.length := by
    have q := Paired.length hit
    rw [Array.length_toList] at q
    exact q.symm
  obtain ⟨c, tl, hmro⟩ := F.called_set.mro
  have hmade := F.called_set.made
  have hsub := F.called_set.sub
  refine wpAny_call (codeAny_of_tree ?_)
  show wpAny _ _ (callAny (.type "set") _) _ _ _
  refine wpAny_pure ⟨Code.quiet_builtin _ (by decide +kernel), codeAny_builtin F.entry_type_call ?_⟩
  rw [Around.under_plain (weight_type_call_type "set" [.ref l] []) rfl]
  have h1 := F.called_set.notType
  have h2 := F.called_set.canCreate
  have hct := F.typeCall_set_1 (.ref l)
  repeat (any_goals (first | assumption | wp_step))
  refine codeAny_mono (code_set_led1 (.ref l) (E := E) (Q₁ := fun obj s₁ => obj = .ref s.heap.objs.size ∧ s₁ = { s with heap := s.heap.push { cls := .type "set", dict := none, data := .set #[] 0 (.fresh 0 0 (!w.params.followText "set-order")) } }) ⟨rfl, rfl⟩) fun r s₁ hr => ?_
  cases r with
  | error e => exact hr
  | ok fl =>
    cases fl with
    | ret obj =>
      obtain ⟨rfl, rfl⟩ := hr
      have fr0 : SetG knd (s.heap.push { cls := .type "set", dict := none, data := .set #[] 0 (.fresh 0 0 (!w.params.followText "set-order")) }) s.heap.objs.size [] := SetG.fresh
      have hS : (s.heap.push { cls := .type "set", dict := none, data := .set #[] 0 (.fresh 0 0 (!w.params.followText "set-order")) }).get? s.heap.objs.size = some { cls := .type "set", dict := none, data := .set #[] 0 (.fresh 0 0 (!w.params.followText "set-order")) } := Heap.get?_push_size _ rfl
      have hT : Shared.TypeIs { s with heap := s.heap.push { cls := .type "set", dict := none, data := .set #[] 0 (.fresh 0 0 (!w.params.followText "set-order")) } } (.ref s.heap.objs.size) "set" := ⟨_, hS, rfl⟩
      have hli := F.called_set.init.lookup
      have hbi := F.called_set.init.bind (.ref s.heap.objs.size)
      repeat (any_goals (first | assumption | wp_step))
      refine codeAny_mono (codeAny_call_builtin (R := wants (fun r s₂ => r = .none ∧ ∃ h' tk, s₂ = { s with heap := h', toks := tk } ∧ SetG knd h' s.heap.objs.size (insAll ks) ∧
          (∀ b o, s.heap.get? b = some o → h'.get? b = some o)) E) F.called_set.init.plain F.entry_set_init (check_set_init_1 hT ?_)) fun r₂ s₂ hr₂ => ?_
      · obtain ⟨ol, hol, hcl, nl, hdl⟩ := hl
        obtain ⟨ocls, odict, odata, oslots⟩ := ol
        simp only at hcl hdl
        subst hcl; subst hdl
        have hol' : (s.heap.push { cls := .type "set", dict := none, data := .set #[] 0 (.fresh 0 0 (!w.params.followText "set-order")) }).get? l = some { cls := .type "list", dict := odict, data := .seq items nl, slots := oslots } := Heap.get?_push_of_some _ hol
        have hsls := F.sub_list_set
        have hslf := F.sub_list_frozenset
        have hne : (Value.type "list" == Value.type "dict") = false := by decide
        have hl1 : (s.heap.push { cls := .type "set", dict := none, data := .set #[] 0 (.fresh 0 0 (!w.params.followText "set-order")) }).IsList l items := ⟨_, hol', rfl, nl, rfl⟩
        unfold Builtin.«set.__init__» noKeywords Builtin.Frozenset.updateFrom
        generalize hPI : pyIter = PI
        wp_walk
        subst hPI
        refine wpAny_pyIter_list hl1 ?_
        refine wpAny_bind (wpAny_runValue ?_)
        have hlS : l < s.heap.objs.size := Heap.lt_size hol
        have hh3 : A.in1.in1.in1.handled = none := by simp [hh]
        have hz1 : (s.heap.push { cls := .type "set", dict := none, data := .set #[] 0 (.fresh 0 0 (!w.params.followText "set-order")) }).objs.size = s.heap.objs.size + 1 := Heap.size_push ..
        have hneI : l ≠ (s.heap.push { cls := .type "set", dict := none, data := .set #[] 0 (.fresh 0 0 (!w.params.followText "set-order")) }).objs.size := by
          rw [Heap.size_push]
          exact Nat.ne_of_lt (Nat.lt_succ_of_lt hlS)
        have hSf : s.heap.objs.size ∉ [(s.heap.push { cls := .type "set", dict := none, data := .set #[] 0 (.fresh 0 0 (!w.params.followText "set-order")) }).objs.size, l] := by
          rw [Heap.size_push]
          simp only [List.mem_cons, List.mem_singleton, List.not_mem_nil, or_false, not_or]
          exact ⟨Nat.ne_of_lt (Nat.lt_succ_self _), Nat.ne_of_gt hlS⟩
        have hval : ∀ (i : Nat) (v : Value), items[i]? = some v → ∃ k, ks[i]? = some k ∧ knd.is k v = true ∧ v.scannable = true := fun i v hv => by
          have q : items.toList[i]? = some v := by rw [Array.getElem?_toList]; exact hv
          exact paired_getR (R := fun k (v : Value) => knd.is k v = true ∧ v.scannable = true) hit q
        have none_of : ∀ b, s.heap.objs.size ≤ b → s.heap.get? b = none := fun b hb => by
          cases q : s.heap.get? b with
          | none => rfl
          | some o => exact absurd (Nat.lt_of_lt_of_le (Heap.lt_size q) hb) (Nat.lt_irrefl _)
        refine upd_keys (knd := knd) ((Walks.list hh3 _ l hneI items).toS) s.heap.objs.size
          hSf ks hisz hfew hval s.heap (none_of _ (Nat.le_refl _)) (fun b hb => none_of b (by
            rw [List.mem_singleton.mp hb, Heap.size_push]
            exact Nat.le_succ _)) (items.size - 0) 0 _ (by omega) (Nat.zero_le _)
          ⟨⟨_, Heap.get?_push_size _ rfl, rfl, rfl⟩, (hl1.push _)⟩ (fun b o e => Heap.get?_push_of_some _ (Heap.get?_push_of_some _ e)) (fr0.at fun o e => Heap.get?_push_of_some _ e) ?hR
        intro s' hm hS' hkp
        obtain ⟨h', g2, d', tk', os'⟩ := s'
        have eg : g2 = s.gens := hm.gens
        have ed : d' = s.drawn := hm.drawn
        have eo : os' = s.os := hm.os
        subst eg; subst ed; subst eo
        show wpAny _ _ _ _ _ _
        refine wpAny_pure ?_
        show wpAny _ _ (ret Value.none) _ _ _
        exact wpAny_pure ⟨rfl, h', tk', rfl, hS', hkp⟩
      · cases r₂ with
        | error e => exact hr₂
        | ok fl₂ =>
          cases fl₂ with
          | ret r =>
            obtain ⟨rfl, h', tk, rfl, hS', hk'⟩ := hr₂
            repeat (any_goals (first | assumption | wp_step))
            exact h h' _ hS' hk'
          | _ => exact hr₂.elim
    | _ => exact hr.elim
end
/-- set(row of texts) -/
def rSetOfS (K : PySem.W.Frag) (P : Program) (w : World) : List V → Hp → VK → Prop := fun xs H Q => ∃ (l : Addr) (zs : List Str), xs = [.ref l] ∧ SqL K H l (zs.map V.str) ∧ zs.length ≤ 100 ∧ ∀ a, H a = none → Q (.ref a) (upd H a (SetKo P w a ((insAll zs).map Sum.inr)))
theorem insG_map (z : Str) (l : List Str) : insG (Sum.inr z : Key) (l.map Sum.inr) = (insG z l).map Sum.inr := by
  unfold insG
  by_cases h : z ∈ l
  · rw [if_pos h, if_pos (List.mem_map.mpr ⟨z, h, rfl⟩)]
  · rw [if_neg h, if_neg (fun m => by
      obtain ⟨y, hy, e⟩ := List.mem_map.mp m
      cases e
      exact h hy)]
    rfl
theorem insAll_map (zs : List Str) : insAll (zs.map (Sum.inr : Str → Key)) = (insAll zs).map Sum.inr := by
  have key : ∀ (l acc : List Str), (l.map (Sum.inr : Str → Key)).foldl (fun acc k => insG k acc) (acc.map Sum.inr) = (l.foldl (fun acc k => insG k acc) acc).map Sum.inr := by
    intro l
    induction l with
    | nil => intro acc; rfl
    | cons z r ih =>
      intro acc
      rw [List.map_cons, List.foldl_cons, List.foldl_cons, insG_map, ih]
  exact key zs []
section
variable {X : Cx}
theorem cr_setOfS (hc : X.calm = true) : CallR X (.type "set") (rSetOfS X.K X.prog X.w) := by
  intro pins s σ H xs us Q I r h
  obtain ⟨l, zs, rfl, hl, hz, q⟩ := h
  rw [Vals.ref1 r]
  obtain ⟨its, rv, pl, hsz⟩ := I.list hl
  have hn : H s.heap.objs.size = none := I.hok.fresh (Nat.le_refl _)
  refine call_setG (knd := mixKind X.prog X.w) (zs.map Sum.inr) (I.ok.hd hc) pl.isList ?_ (by rw [List.length_map]; exact Nat.lt_of_le_of_lt (Nat.succ_le_succ hz) (by decide)) fun h' tk R k => ?_
  · rw [List.toList_toArray]
    clear hl hsz pl q r hz
    induction zs generalizing its with
    | nil =>
      cases rv
      exact .nil
    | cons z r ih =>
      cases rv with
      | cons h1 h2 => exact .cons (kV_sc (k := .inr z) h1) (ih _ h2)
  · rw [insAll_map] at R
    exact ⟨.ref s.heap.objs.size, _, I.laid (t' := tk) k (Nat.le_refl _) (setKo_new R), rfl, q _ hn⟩
end
end WW

set_option Elab.async false
set_option linter.all false
set_option maxRecDepth 100000
set_option maxHeartbeats 4000000
namespace WW
open PySem PySem.Spec PyProof.Rows L2
/-! ### == and != by the text's own __eq__ -/
section
variable {prog : Program} {w : World} {A : Around} {E : Value → Shared → Prop} {s : Shared} {K : PySem.W.Frag} {x y C f : Addr} {ox oy : Obj} {od ody : Option Obj}
theorem ne_body {Q : PySem.Fin → Shared → Prop} (hu : A.units < cLine) (X : K.In s.heap) (I : PySem.W.InstAt s.heap x ox C od) (heq : PySem.W.findIn K (.ref C) "__eq__" = some (some (.ref f))) (hf : PySem.W.isFn K (.ref f) = true)
    (h : wpAny (model prog w) A (call (.ref f) [.ref x, .ref y]) (fun v s' => ∃ b, v = .bool b ∧ Q (.done (.ret (.bool (!b)))) s') E s) :
    wpAny (model prog w) A (Builtin.«object.__ne__» ⟨[.ref x, .ref y], []⟩) Q E s := by
  unfold Builtin.«object.__ne__»
  refine wpAny_bind (wpAny_of_eq (show slotArgs "__ne__" 1 ⟨[.ref x, .ref y], []⟩ = pure (Value.ref x, [Value.ref y]) from rfl) ?_)
  show wpAny (model prog w) A (cRoomFor "comparison" [.ref x, .ref y] >>= _) Q E s
  refine wpAny_bind (wpAny_cRoomFor hu ?_)
  refine wpAny_bind (PySem.W.ifBound_K X I heq hf (wpAny_mono h (fun v s' hv => ?_) fun _ _ e => e))
  obtain ⟨b, rfl, q⟩ := hv
  exact wpAny_bind (wpAny_truthy_bool (wpAny_pure q))
theorem ne_K {Q : Value → Shared → Prop} (hu : A.units + 1 < cLine) (X : K.In s.heap) (I : PySem.W.InstAt s.heap x ox C od) (J : PySem.W.InstAt s.heap y oy C ody) (hne : PySem.W.findIn K (.ref C) "__ne__" = some (some (.builtin "object.__ne__")))
    (hsub : PySem.W.subIn K (.ref C) (.type "object") = some true) (heq : PySem.W.findIn K (.ref C) "__eq__" = some (some (.ref f))) (hf : PySem.W.isFn K (.ref f) = true)
    (h : wpAny (model prog w) A.in1 (call (.ref f) [.ref x, .ref y]) (fun v s' => ∃ b, v = .bool b ∧ Q (.bool (!b)) s') E s) :
    wpAny (model prog w) A (compareOp .NotEq (.ref x) (.ref y)) Q E s := by
  have one : wpAny (model prog w) A (tryCompare (.ref x) "__ne__" (.ref y)) (fun r s' => ∃ b, r = some (.bool (!b)) ∧ Q (.bool (!b)) s') E s := by
    unfold tryCompare
    refine wpAny_bind ?_
    simp only [callSpecialIfBound?, bindSpecialIfBound?]
    refine wpAny_holding (wpAny_bind (wpAny_bind (wpAny_bind (I.type.here ((PySem.W.looks_findIn X hne).here ?_)))))
    have fin : wpAny (model prog w) A (call (.builtin "object.__ne__") ([.ref x] ++ [.ref y]) >>= fun v => pure (some v)) (fun r s' => wpAny (model prog w) A (match r with
        | some Value.notImplemented => pure none
        | none => pure none
        | some v => pure (some v)) (fun r s' => ∃ b, r = some (.bool (!b)) ∧ Q (.bool (!b)) s') E s') E s := by
      refine wpAny_bind (wpAny_call (codeAny_call_builtin PySem.F.cmp_object.ne.plain PySem.F.cmpEntry_ne (PySem.W.check_slot PySem.F.cmpKind_ne PySem.F.cmpSplit_ne (I.type.andThen (PySem.W.looks_subIn X hsub)) (PySem.F.cmpArgs_ne _ _) (ne_body (A := A.in1) hu X I heq hf (wpAny_mono h (fun v s' hv => ?_) fun _ _ e => e)))))
      obtain ⟨b, rfl, q⟩ := hv
      exact ⟨b, rfl, wpAny_pure (wpAny_pure ⟨b, rfl, q⟩)⟩
    simp only [PySem.F.cmp_object.ne.bind]
    refine wpAny_bind (wpAny_askSetting (wpAny_ite ?_))
    split
    · exact wpAny_bind (wpAny_pure (wpAny_pure fin))
    · exact wpAny_tryCatch (wpAny_bind (wpAny_pure (wpAny_pure fin)))
  unfold compareOp richCompare
  simp only [PySem.oneThing_ref]
  refine wpAny_holding (wpAny_bind (wpAny_cRoomFor (Nat.lt_of_succ_lt hu) ?_))
  refine wpAny_bind (I.type.here (wpAny_bind (J.type.here ?_)))
  rw [show (Value.ref C != Value.ref C) = false from by simp]
  simp only [Bool.false_eq_true, if_false]
  refine wpAny_bind (wpAny_pure ?_)
  simp only [Bool.false_eq_true, if_false]
  refine wpAny_bind (wpAny_mono one (fun r s' z => ?_) fun _ _ e => e)
  obtain ⟨b, rfl, q⟩ := z
  exact wpAny_pure q
end

/-- a class with its own __eq__ and the plain != -/
structure EqC (K : PySem.W.Frag) (C f : Addr) : Prop where
  eq : PySem.W.findIn K (.ref C) "__eq__" = some (some (.ref f))
  ne : PySem.W.findIn K (.ref C) "__ne__" = some (some (.builtin "object.__ne__"))
  fn : PySem.W.isFn K (.ref f) = true
  sub : PySem.W.subIn K (.ref C) (.type "object") = some true
section
variable {X : Cx} {n : Nat} {C f : Addr} {fd : FuncData} {ps : List Str} {sp : Sp}
def rEqO (C : Addr) (sp : Sp) : R2 := fun x y H Q => ∃ a b dx dy fs gs, x = .ref a ∧ y = .ref b ∧ H a = some (.ins C dx fs) ∧ H b = some (.ins C dy gs) ∧ sp [.ref a, .ref b] H Q E0
def rNeO (C : Addr) (sp : Sp) : R2 := fun x y H Q => ∃ a b dx dy fs gs, x = .ref a ∧ y = .ref b ∧ H a = some (.ins C dx fs) ∧ H b = some (.ins C dy gs) ∧ sp [.ref a, .ref b] H (fun v H' => ∃ c, v = .bl c ∧ Q (.bl (!c)) H') E0
theorem run2 {pins : List (Addr × Obj)} {σ : L2.St} {H : Hp} {s : Shared} {A : Around} {Q : VK} {a b : Addr} {E : Value → Shared → Prop} (F : FnOk X.prog X.w X.K X.mg X.base CX0 n f fd ps sp) (hb : Binds X.K fd ps []) (I : L2.Inv X pins σ H s) (hr : Room n A) (hfr : A.frames = X.A.frames)
    (h : sp [.ref a, .ref b] H Q E0) : wpAny (model X.prog X.w) A (call (.ref f) [.ref a, .ref b]) (EP X pins σ Q) E s := by
  have e0 : Env0 X.prog X.w X.K X.mg X.base A X.stack s H := by
    have e := I.env0
    exact ⟨by rw [hfr]; exact e.frames, e.mod, e.bs, e.bsz, e.funs, e.frf, e.hok, e.bare⟩
  have hl := F.len _ _ _ _ h
  have r2 : Vals [V.ref a, V.ref b] [Value.ref a, Value.ref b] := .cons rfl (.cons rfl .nil)
  refine wpAny_call (codeAny_mono (F.run A X.stack s H ⟨[.ref a, .ref b], []⟩ [.ref a, .ref b] [.ref a, .ref b] Q E0 hr e0 (by
    have := hb s [.ref a, .ref b] I.kIn (by simpa using hl)
    simpa using this) r2 h) fun r s' hq => ?_)
  cases r with
  | error e => exact False.elim hq
  | ok fl =>
    cases fl with
    | ret w =>
      obtain ⟨z, H', I', rz, q⟩ := I.after hq
      exact ⟨z, H', I', rz, q⟩
    | next => exact False.elim hq
    | brk => exact False.elim hq
    | cont => exact False.elim hq
theorem op_eqO (c : EqC X.K C f) (F : FnOk X.prog X.w X.K X.mg X.base CX0 n f fd ps sp) (hb : Binds X.K fd ps []) (hr : Room n X.A) : OpR X (compareOp .Eq) (rEqO C sp) := by
  intro pins s σ H x y v u Q I rx ry h
  obtain ⟨a, b, dx, dy, fs, gs, rfl, rfl, ha, hb', q⟩ := h
  cases rx
  cases ry
  obtain ⟨mA, J, _⟩ := ins_get I.hok ha
  obtain ⟨mB, J', _⟩ := ins_get I.hok hb'
  obtain ⟨od, J, _⟩ := J.look
  obtain ⟨od', J', _⟩ := J'.look
  obtain ⟨m, hF⟩ := I.fr
  show wpAny (model X.prog X.w) X.A (richCompare .Eq (.ref a) (.ref b)) _ _ _
  refine PySem.W.cmp_K (op := .Eq) (tb := .ref C) hr.units0 hF I.ok.mod.kin J J'.type (by simp [PySem.W.notFirst]) c.eq c.fn (wpAny_mono (run2 F hb I hr rfl q) (fun z s' hz => ?_) fun _ _ e => e)
  obtain ⟨z', H', I', rz, q'⟩ := id hz
  cases z' with
  | non => cases (show z = Value.none from rz); exact hz
  | bl c => cases (show z = Value.bool c from rz); exact hz
  | int i => obtain ⟨t, e⟩ := (show ∃ t, z = Value.int i t from rz); cases e; exact hz
  | str i => obtain ⟨t, e⟩ := (show ∃ t, z = Value.str i t from rz); cases e; exact hz
  | byt i => obtain ⟨t, e⟩ := (show ∃ t, z = Value.bytes i t from rz); cases e; exact hz
  | flt i => obtain ⟨t, e⟩ := (show ∃ t, z = Value.float i t from rz); cases e; exact hz
  | ref i => cases (show z = Value.ref i from rz); exact hz
  | ty i => cases (show z = Value.type i from rz); exact hz
theorem op_neO (c : EqC X.K C f) (F : FnOk X.prog X.w X.K X.mg X.base CX0 n f fd ps sp) (hb : Binds X.K fd ps []) (hr : Room (n + 1) X.A) : OpR X (compareOp .NotEq) (rNeO C sp) := by
  intro pins s σ H x y v u Q I rx ry h
  obtain ⟨a, b, dx, dy, fs, gs, rfl, rfl, ha, hb', q⟩ := h
  cases rx
  cases ry
  obtain ⟨mA, J, _⟩ := ins_get I.hok ha
  obtain ⟨mB, J', _⟩ := ins_get I.hok hb'
  obtain ⟨od, J, _⟩ := J.look
  obtain ⟨od', J', _⟩ := J'.look
  refine ne_K (by have := hr.un; omega) I.kIn J J' c.ne c.sub c.eq c.fn (wpAny_mono (run2 (A := X.A.in1) F hb I hr.in1 rfl q) (fun z s' hz => ?_) fun _ _ e => e)
  obtain ⟨z', H', I', rz, cc, rfl, q'⟩ := hz
  cases (show z = Value.bool cc from rz)
  exact ⟨cc, rfl, .bl (!cc), H', I', rfl, q'⟩
end
end WW

set_option Elab.async false
set_option linter.all false
set_option maxRecDepth 100000
set_option maxHeartbeats 4000000
namespace WW
open PySem PySem.Spec PyProof.Rows L2
/-! ### plain values and their kinds -/
def kinds : List String := ["NoneType", "bool", "int", "str", "list", "tuple", "dict"]
def Kd (K : PySem.W.Frag) (H : Hp) (x : V) (n : String) : Prop := TyX K H x (.type n) ∧ n ∈ kinds ∧ ∀ z, x = .str z → z.length ≤ sizeLine
theorem kit_int {K : PySem.W.Frag} {n : String} (h : n ∈ kinds) : PySem.W.kitOne K (.type n) (.type "int") = some (n == "int" || n == "bool") := by
  have : ∀ n ∈ kinds, kitB n "int" = some (n == "int" || n == "bool") := by decide +kernel
  exact kit_ty (this n h)
theorem kit_bool {K : PySem.W.Frag} {n : String} (h : n ∈ kinds) : PySem.W.kitOne K (.type n) (.type "bool") = some (n == "bool") := by
  have : ∀ n ∈ kinds, kitB n "bool" = some (n == "bool") := by decide +kernel
  exact kit_ty (this n h)
theorem kit_str {K : PySem.W.Frag} {n : String} (h : n ∈ kinds) : PySem.W.kitOne K (.type n) (.type "str") = some (n == "str") := by
  have : ∀ n ∈ kinds, kitB n "str" = some (n == "str") := by decide +kernel
  exact kit_ty (this n h)
theorem kit_list {K : PySem.W.Frag} {n : String} (h : n ∈ kinds) : PySem.W.kitOne K (.type n) (.type "list") = some (n == "list") := by
  have : ∀ n ∈ kinds, kitB n "list" = some (n == "list") := by decide +kernel
  exact kit_ty (this n h)
theorem kit_tuple {K : PySem.W.Frag} {n : String} (h : n ∈ kinds) : PySem.W.kitOne K (.type n) (.type "tuple") = some (n == "tuple") := by
  have : ∀ n ∈ kinds, kitB n "tuple" = some (n == "tuple") := by decide +kernel
  exact kit_ty (this n h)
theorem kit_row {K : PySem.W.Frag} {n : String} (h : n ∈ kinds) : PySem.W.kitAny K (.type n) [.type "list", .type "tuple"] = some (n == "list" || n == "tuple") := by
  refine kitAny_cons (kit_list h) (fun e => ?_) (fun e => by rw [e]; rfl)
  rw [e, Bool.false_or]
  refine kitAny_cons (kit_tuple h) (fun e2 => by rw [e2]; exact kitAny_nil) (fun e2 => e2)
theorem kd_int (K : PySem.W.Frag) (H : Hp) (i : Int) : Kd K H (.int i) "int" := ⟨.base (.int i), by decide, fun z e => by cases e⟩
theorem kd_str (K : PySem.W.Frag) (H : Hp) {z : Str} (h : z.length ≤ sizeLine) : Kd K H (.str z) "str" := ⟨.base (.str z), by decide, fun y e => by cases e; exact h⟩
theorem kd_tup (K : PySem.W.Frag) {H : Hp} {a : Addr} {xs : List V} (h : H a = some (.tup xs)) : Kd K H (.ref a) "tuple" := ⟨.base (.tup h), by decide, fun y e => by cases e⟩
theorem kd_lst (K : PySem.W.Frag) {H : Hp} {a : Addr} {xs : List V} (h : H a = some (.lst xs)) : Kd K H (.ref a) "list" := ⟨.base (.lst h), by decide, fun y e => by cases e⟩
theorem kd_is_int {K : PySem.W.Frag} {H : Hp} {x : V} (h : Kd K H x "int") : ∃ i, x = .int i := by
  obtain ⟨h, _⟩ := h
  generalize e : Value.type "int" = t at h
  cases h with
  | base b => cases b <;> first | exact ⟨_, rfl⟩ | exact absurd (Value.type.inj e) (by decide) | cases e
  | byt b => exact absurd (Value.type.inj e) (by decide)
  | set _ => exact absurd (Value.type.inj e) (by decide)
  | kList _ _ => exact absurd (Value.type.inj e) (by decide)
  | kTuple _ _ => exact absurd (Value.type.inj e) (by decide)
  | kDict _ _ => exact absurd (Value.type.inj e) (by decide)
  | fTuple _ => exact absurd (Value.type.inj e) (by decide)
  | fDict _ => exact absurd (Value.type.inj e) (by decide)
theorem kd_not_int {K : PySem.W.Frag} {H : Hp} {x : V} {n : String} (h : Kd K H x n) (hn : n ≠ "int") : ∀ i, x ≠ .int i := by
  rintro i rfl
  obtain ⟨h, _⟩ := h
  generalize e : Value.type n = t at h
  cases h with
  | base b =>
    cases b
    cases e
    exact hn rfl
theorem kd_is_str {K : PySem.W.Frag} {H : Hp} {x : V} (h : Kd K H x "str") : ∃ z, x = .str z := by
  obtain ⟨h, _⟩ := h
  generalize e : Value.type "str" = t at h
  cases h with
  | base b => cases b <;> first | exact ⟨_, rfl⟩ | exact absurd (Value.type.inj e) (by decide) | cases e
  | byt b => exact absurd (Value.type.inj e) (by decide)
  | set _ => exact absurd (Value.type.inj e) (by decide)
  | kList _ _ => exact absurd (Value.type.inj e) (by decide)
  | kTuple _ _ => exact absurd (Value.type.inj e) (by decide)
  | kDict _ _ => exact absurd (Value.type.inj e) (by decide)
  | fTuple _ => exact absurd (Value.type.inj e) (by decide)
  | fDict _ => exact absurd (Value.type.inj e) (by decide)
theorem kd_not_str {K : PySem.W.Frag} {H : Hp} {x : V} {n : String} (h : Kd K H x n) (hn : n ≠ "str") : ∀ z, x ≠ .str z := by
  rintro i rfl
  obtain ⟨h, _⟩ := h
  generalize e : Value.type n = t at h
  cases h with
  | base b =>
    cases b
    cases e
    exact hn rfl
def btw (lo hi : Int) : V → Bool
  | .int i => decide (lo ≤ i) && decide (i ≤ hi)
  | _ => false
def nmB (z : Str) : Bool := decide (1 ≤ z.length) && decide (z.length ≤ 10) && z.cps.toList.all fun c => decide (c ∈ smallS.cps.toList)
def isNm : V → Bool
  | .str z => nmB z
  | _ => false
structure Cst (mg : Str → Option Value) : Prop where
  small : ∃ t, mg "SMALL" = some (.str smallS t)
section
variable {P : Program} {w : World} {K : PySem.W.Frag} {mg : Str → Option Value} {base : Heap} {f fA : Addr} {fd fdA : FuncData}
abbrev sIs_integer : Stmt := topS 2
abbrev nIs_integer : List Str := ["thing"]
theorem scIs_integer : FnScope nIs_integer ["thing"] (defScope sIs_integer) := ⟨rfl, rfl, rfl, by decide +kernel, rfl, by decide +kernel, by decide +kernel⟩
def spIsInteger (K : PySem.W.Frag) : Sp := fun vs H Q _ => ∃ (x : V) (n : String), vs = [x] ∧ Kd K H x n ∧ Q (.bl (n == "int")) H
theorem ok_is_integer (D : Df K mg "is_integer" sIs_integer ["thing"] f fd) (T : Bl mg) : FnOk P w K mg base CX0 1 f fd ["thing"] (spIsInteger K) := by
  refine D.fn.ok scIs_integer (fun vs H Q E h => ?_) (fun cdv A outer s H vs Q E hr h => ?_)
  · obtain ⟨x, n, rfl, _⟩ := h
    rfl
  · obtain ⟨x, n, rfl, hk, q⟩ := h
    refine ⟨_, (pss_one (ps_ret (pe_and (pe_callB call_isi (by rfl) T.isinstance (by decide +kernel) (pa_cons (pv 0) (pa_cons (pe_bltn (v := .ty "int") (by rfl) T.int (by decide +kernel) rfl) pa_nil))) (pe_one (pe_not (pe_callB call_isi (by rfl) T.isinstance (by decide +kernel) (pa_cons (pv 0) (pa_cons (pe_bltn (v := .ty "bool") (by rfl) T.bool (by decide +kernel) rfl) pa_nil)))))))), ?_⟩
    refine ⟨_, rfl, _, _, _, _, _, rfl, .ty "int", hk.1, kit_int hk.2.1, _, rfl, ?_⟩
    refine ite2 (fun c => ?_) (fun c => ?_)
    · refine ⟨_, rfl, _, _, _, _, _, rfl, .ty "bool", hk.1, kit_bool hk.2.1, _, rfl, ?_⟩
      have e : (!(n == "bool")) = (n == "int") := by
        rcases Bool.or_eq_true_iff.mp c with h | h
        · rw [beq_iff_eq.mp h]
          decide
        · rw [beq_iff_eq.mp h]
          decide
      show Q (.bl (!(n == "bool"))) H
      rw [e]
      exact q
    · have e : (n == "int") = false := by
        cases h : n == "int" with
        | false => rfl
        | true => exact absurd (by rw [h]; rfl) c
      show Q (.bl false) H
      rw [← e]
      exact q
abbrev sIs_between : Stmt := topS 3
abbrev nIs_between : List Str := ["thing", "low", "high"]
theorem scIs_between : FnScope nIs_between ["thing", "low", "high"] (defScope sIs_between) := ⟨rfl, rfl, rfl, by decide +kernel, rfl, by decide +kernel, by decide +kernel⟩
def spIsBetween (K : PySem.W.Frag) : Sp := fun vs H Q _ => ∃ (x : V) (n : String) (lo hi : Int), vs = [x, .int lo, .int hi] ∧ Kd K H x n ∧ Q (.bl (btw lo hi x)) H
theorem ok_is_between {fB : Addr} {fdB : FuncData} (D : Df K mg "is_between" sIs_between ["thing", "low", "high"] f fd) (DIs_integer : Df K mg "is_integer" sIs_integer ["thing"] fB fdB) (T : Bl mg) : FnOk P w K mg base CX0 2 f fd ["thing", "low", "high"] (spIsBetween K) := by
  have GIs_integer : FnOk P w K mg base CX0 1 fB fdB ["thing"] (spIsInteger K) := ok_is_integer DIs_integer T
  refine D.fn.ok scIs_between (fun vs H Q E h => ?_) (fun cdv A outer s H vs Q E hr h => ?_)
  · obtain ⟨x, n, lo, hi, rfl, _⟩ := h
    rfl
  · obtain ⟨x, n, lo, hi, rfl, hk, q⟩ := h
    refine ⟨_, (pss_one (ps_ret (pe_and (pe_df DIs_integer GIs_integer (hr.mono (by decide)) (pa_cons (pv 0) pa_nil)) (pe_one (pe_chain op_le op_le (pv 1) (pv 0) (pv 2)))))), ?_⟩
    refine ⟨_, rfl, x, n, rfl, hk, _, rfl, ite2 (fun c => ?_) (fun c => ?_)⟩
    · have en : n = "int" := beq_iff_eq.mp c
      subst en
      obtain ⟨i, rfl⟩ := kd_is_int hk
      refine ⟨_, rfl, _, rfl, _, _, rfl, rfl, _, rfl, ?_⟩
      by_cases h1 : lo ≤ i
      · rw [decide_eq_true h1]
        refine ⟨_, rfl, _, _, rfl, rfl, ?_⟩
        have e : btw lo hi (.int i) = decide (i ≤ hi) := by
          show (decide (lo ≤ i) && decide (i ≤ hi)) = _
          rw [decide_eq_true h1]
          rfl
        rw [e] at q
        exact q
      · rw [decide_eq_false h1]
        have e : btw lo hi (.int i) = false := by
          show (decide (lo ≤ i) && decide (i ≤ hi)) = _
          rw [decide_eq_false h1]
          rfl
        rw [e] at q
        exact q
    · have e : btw lo hi x = false := by
        have hn := kd_not_int hk (fun z => c (by rw [z]; rfl))
        cases x with
        | int i => exact absurd rfl (hn i)
        | _ => rfl
      rw [e] at q
      exact q
abbrev sIs_row : Stmt := topS 5
abbrev nIs_row : List Str := ["thing"]
theorem scIs_row : FnScope nIs_row ["thing"] (defScope sIs_row) := ⟨rfl, rfl, rfl, by decide +kernel, rfl, by decide +kernel, by decide +kernel⟩
def spIsRow (K : PySem.W.Frag) : Sp := fun vs H Q _ => ∃ (x : V) (n : String), vs = [x] ∧ Kd K H x n ∧ ∀ H', Same H H' → Q (.bl (n == "list" || n == "tuple")) H'
theorem tyx_mono {K : PySem.W.Frag} {H H' : Hp} {x : V} {t : Value} (s : Same H H') (h : TyX K H x t) : TyX K H' x t := by
  cases h with
  | base b =>
    cases b with
    | non => exact .base .non
    | bl x => exact .base (.bl x)
    | int x => exact .base (.int x)
    | str x => exact .base (.str x)
    | flt x => exact .base (.flt x)
    | lst e => exact .base (.lst (s _ _ e))
    | frz e => exact .base (.frz (s _ _ e))
    | tup e => exact .base (.tup (s _ _ e))
    | dK e => exact .base (.dK (s _ _ e))
    | dT e => exact .base (.dT (s _ _ e))
    | ins e cl ha hn htk hm => exact .base (.ins (s _ _ e) cl ha hn htk hm)
  | byt b => exact .byt b
  | set e => exact .set (s _ _ e)
  | kList e c => exact .kList e c
  | kTuple e c => exact .kTuple e c
  | kDict e c => exact .kDict e c
  | fTuple e => exact .fTuple (s _ _ e)
  | fDict e => exact .fDict (s _ _ e)
theorem Kd.mono {K : PySem.W.Frag} {H H' : Hp} {x : V} {n : String} (s : Same H H') (h : Kd K H x n) : Kd K H' x n := ⟨tyx_mono s h.1, h.2⟩
theorem ok_is_row (D : Df K mg "is_row" sIs_row ["thing"] f fd) (T : Bl mg) : FnOk P w K mg base CX0 1 f fd ["thing"] (spIsRow K) := by
  refine D.fn.ok scIs_row (fun vs H Q E h => ?_) (fun cdv A outer s H vs Q E hr h => ?_)
  · obtain ⟨x, n, rfl, _⟩ := h
    rfl
  · obtain ⟨x, n, rfl, hk, q⟩ := h
    refine ⟨_, (pss_one (ps_ret (pe_callB call_isiT (by rfl) T.isinstance (by decide +kernel) (pa_cons (pv 0) (pa_cons (pe_tup (pa_cons (pe_bltn (v := .ty "list") (by rfl) T.list (by decide +kernel) rfl) (pa_cons (pe_bltn (v := .ty "tuple") (by rfl) T.tuple (by decide +kernel) rfl) pa_nil))) pa_nil))))), ?_⟩
    refine ⟨_, rfl, by show 2 ≤ sizeLine; decide, fun t ht => ?_⟩
    refine ⟨x, t, _, _, [.type "list", .type "tuple"], _, rfl, upd_same, .cons (.ty "list") (.cons (.ty "tuple") .nil), tyx_mono (same_upd ht) hk.1, kit_row hk.2.1, q _ (same_upd ht)⟩
abbrev sIs_name : Stmt := topS 4
abbrev nIs_name : List Str := ["thing", "letter"]
theorem scIs_name : FnScope nIs_name ["thing"] (defScope sIs_name) := ⟨rfl, rfl, rfl, by decide +kernel, rfl, by decide +kernel, by decide +kernel⟩
def spIsName (K : PySem.W.Frag) : Sp := fun vs H Q _ => ∃ (x : V) (n : String), vs = [x] ∧ Kd K H x n ∧ ∀ H', Same H H' → Q (.bl (isNm x)) H'
def inSm (v : V) : Option V := match v with
  | .str ⟨#[c]⟩ => some (.bl (decide (c ∈ smallS.cps.toList)))
  | _ => none
theorem inSm_signs (z : Str) : (signs z).filterMap inSm = (z.cps.toList.map fun c => decide (c ∈ smallS.cps.toList)).map V.bl := by
  unfold signs
  induction z.cps.toList with
  | nil => rfl
  | cons c r ih =>
    simp only [List.map_cons, List.filterMap_cons]
    rw [ih]
    rfl
theorem ok_is_name (D : Df K mg "is_name" sIs_name ["thing"] f fd) (T : Bl mg) (C : Cst mg) : FnOk P w K mg base CX0 1 f fd ["thing"] (spIsName K) := by
  obtain ⟨tsm, hsm⟩ := C.small
  refine D.fn.ok scIs_name (fun vs H Q E h => ?_) (fun cdv A outer s H vs Q E hr h => ?_)
  · obtain ⟨x, n, rfl, _⟩ := h
    rfl
  · obtain ⟨x, n, rfl, hk, q⟩ := h
    refine ⟨_, (pss_cons (ps_if (PW.pt (pw_or (pt_not (pt_val (pe_callB call_isi (by rfl) T.isinstance (by decide +kernel) (pa_cons (pv 0) (pa_cons (pe_bltn (v := .ty "str") (by rfl) T.str (by decide +kernel) rfl) pa_nil))))) (pw_or1 (pt_not (pt_chain op_le op_le pe_int (pe_callB call_len (by rfl) T.len (by decide +kernel) (pa_cons (pv 0) pa_nil)) pe_int))))) (pss_one (ps_ret pe_bl)) pss_nil)
      (pss_one (ps_ret (pe_callB (cr_all rfl) (by rfl) T.all (by decide +kernel) (pa_cons (pe_lc (own := [("letter", 1)]) rfl scIs_name.nd (pi_str (pv 0)) (blkOk_by (own := [("letter", 1)]) (N := nIs_name) (sc := defScope sIs_name) (by decide +kernel)) (fun _ _ _ _ _ => (pg_name (i := 1) scIs_name.nd rfl (Or.inl rfl))) (fun _ _ _ _ _ => pts_nil) (fun _ _ _ _ _ => (pe_cmpR op_in_sign (pv 1) (pe_glob (v := .str smallS) (by rfl) hsm ⟨_, rfl⟩) (by rfl)))) pa_nil))))), ?_⟩
    refine ⟨_, rfl, _, _, _, _, _, rfl, .ty "str", hk.1, kit_str hk.2.1, _, rfl, ?_⟩
    by_cases en : n = "str"
    · subst en
      obtain ⟨z, rfl⟩ := kd_is_str hk
      have hl := hk.2.2 z rfl
      refine ⟨_, rfl, _, _, rfl, ⟨hl, rfl⟩, _, _, rfl, rfl, _, rfl, ?_⟩
      have e0 : isNm (.str z) = (decide (1 ≤ z.length) && decide (z.length ≤ 10) && z.cps.toList.all fun c => decide (c ∈ smallS.cps.toList)) := rfl
      by_cases h1 : (1 : Int) ≤ (z.length : Int)
      · rw [decide_eq_true h1]
        refine ⟨_, _, rfl, rfl, _, rfl, ?_⟩
        by_cases h2 : (z.length : Int) ≤ 10
        · rw [decide_eq_true h2]
          refine ⟨_, rfl, z, rfl, fun D1 hD1 => lc_pureS inSm (by omega) (fun _ => rfl) (fun y H2 hy s2 Q2 q2 => ?_) hD1 (fun H2 s2 h2' => ?_)⟩
          · obtain ⟨c, hc, rfl⟩ := List.mem_map.mp hy
            exact ⟨_, rfl, c, smallS, rfl, rfl, q2 H2 (Same.refl _)⟩
          · rw [inSm_signs] at h2'
            refine ⟨D1, _, rfl, SqL.of h2', ?_⟩
            rw [e0, decide_eq_true (show 1 ≤ z.length by omega), decide_eq_true (show z.length ≤ 10 by omega)] at q
            have := q H2 s2
            rw [List.all_map]
            exact this
        · rw [decide_eq_false h2]
          rw [e0, decide_eq_false (show ¬ z.length ≤ 10 by omega), Bool.and_false] at q
          exact q H (Same.refl _)
      · rw [decide_eq_false h1]
        rw [e0, decide_eq_false (show ¬ 1 ≤ z.length by omega)] at q
        exact ⟨_, rfl, q H (Same.refl _)⟩
    · have e1 : (n == "str") = false := beq_eq_false_iff_ne.mpr en
      have e2 : isNm x = false := by
        have hn := kd_not_str hk en
        cases x with
        | str z => exact absurd rfl (hn z)
        | _ => rfl
      rw [e1]
      rw [e2] at q
      exact q H (Same.refl _)
end
end WW

set_option Elab.async false
set_option linter.all false
set_option maxRecDepth 100000
set_option maxHeartbeats 4000000
namespace WW
open PySem PySem.Spec PyProof.Rows L2
/-! ### set(tuple of texts) -/
section
variable {P : Program} {w : World} {κ : Type} [DecidableEq κ] {knd : PySem.KeyKind P w κ} {A : Around} {E : Value → Shared → Prop} {s : Shared}
theorem call_setGT {l : Addr} {items : Array Value} (ks : List κ) {Q : Value → Shared → Prop} (hh : A.handled = none) (hl : s.heap.IsTuple l items) (hit : Paired (fun k (v : Value) => knd.is k v = true ∧ v.scannable = true) ks items.toList) (hfew : ks.length + 1 < scanBound)
    (h : ∀ (h' : Heap) (tk : Nat), SetG knd h' s.heap.objs.size (insAll ks) → (∀ b o, s.heap.get? b = some o → h'.get? b = some o) → Q (.ref s.heap.objs.size) { s with heap := h', toks := tk }) :
    wpAny (model P w) A (call (.type "set") [.ref l]) Q E s := by
  have hisz : items.size = ks.length := by
    have q := Paired.length hit
    rw [Array.length_toList] at q
    exact q.symm
  obtain ⟨c, tl, hmro⟩ := F.called_set.mro
  have hmade := F.called_set.made
  have hsub := F.called_set.sub
  refine wpAny_call (codeAny_of_tree ?_)
  show wpAny _ _ (callAny (.type "set") _) _ _ _
  refine wpAny_pure ⟨Code.quiet_builtin _ (by decide +kernel), codeAny_builtin F.entry_type_call ?_⟩
  rw [Around.under_plain (weight_type_call_type "set" [.ref l] []) rfl]
  have h1 := F.called_set.notType
  have h2 := F.called_set.canCreate
  have hct := F.typeCall_set_1 (.ref l)
  repeat (any_goals (first | assumption | wp_step))
  refine codeAny_mono (code_set_led1 (.ref l) (E := E) (Q₁ := fun obj s₁ => obj = .ref s.heap.objs.size ∧ s₁ = { s with heap := s.heap.push { cls := .type "set", dict := none, data := .set #[] 0 (.fresh 0 0 (!w.params.followText "set-order")) } }) ⟨rfl, rfl⟩) fun r s₁ hr => ?_
  cases r with
  | error e => exact hr
  | ok fl =>
    cases fl with
    | ret obj =>
      obtain ⟨rfl, rfl⟩ := hr
      have fr0 : SetG knd (s.heap.push { cls := .type "set", dict := none, data := .set #[] 0 (.fresh 0 0 (!w.params.followText "set-order")) }) s.heap.objs.size [] := SetG.fresh
      have hS : (s.heap.push { cls := .type "set", dict := none, data := .set #[] 0 (.fresh 0 0 (!w.params.followText "set-order")) }).get? s.heap.objs.size = some { cls := .type "set", dict := none, data := .set #[] 0 (.fresh 0 0 (!w.params.followText "set-order")) } := Heap.get?_push_size _ rfl
      have hT : Shared.TypeIs { s with heap := s.heap.push { cls := .type "set", dict := none, data := .set #[] 0 (.fresh 0 0 (!w.params.followText "set-order")) } } (.ref s.heap.objs.size) "set" := ⟨_, hS, rfl⟩
      have hli := F.called_set.init.lookup
      have hbi := F.called_set.init.bind (.ref s.heap.objs.size)
      repeat (any_goals (first | assumption | wp_step))
      refine codeAny_mono (codeAny_call_builtin (R := wants (fun r s₂ => r = .none ∧ ∃ h' tk, s₂ = { s with heap := h', toks := tk } ∧ SetG knd h' s.heap.objs.size (insAll ks) ∧
          (∀ b o, s.heap.get? b = some o → h'.get? b = some o)) E) F.called_set.init.plain F.entry_set_init (check_set_init_1 hT ?_)) fun r₂ s₂ hr₂ => ?_
      · obtain ⟨ol, hol, hcl, nl, hdl⟩ := hl
        obtain ⟨ocls, odict, odata, oslots⟩ := ol
        simp only at hcl hdl
        subst hcl; subst hdl
        have hol' : (s.heap.push { cls := .type "set", dict := none, data := .set #[] 0 (.fresh 0 0 (!w.params.followText "set-order")) }).get? l = some { cls := .type "tuple", dict := odict, data := .seq items nl, slots := oslots } := Heap.get?_push_of_some _ hol
        have hsls := F.sub_tuple_set
        have hslf := F.sub_tuple_frozenset
        have hne : (Value.type "tuple" == Value.type "dict") = false := by decide
        have hl1 : (s.heap.push { cls := .type "set", dict := none, data := .set #[] 0 (.fresh 0 0 (!w.params.followText "set-order")) }).IsTuple l items := ⟨_, hol', rfl, nl, rfl⟩
        unfold Builtin.«set.__init__» noKeywords Builtin.Frozenset.updateFrom
        generalize hPI : pyIter = PI
        wp_walk
        subst hPI
        refine wpAny_pyIter_tuple hl1 ?_
        refine wpAny_bind (wpAny_runValue ?_)
        have hlS : l < s.heap.objs.size := Heap.lt_size hol
        have hh3 : A.in1.in1.in1.handled = none := by simp [hh]
        have hz1 : (s.heap.push { cls := .type "set", dict := none, data := .set #[] 0 (.fresh 0 0 (!w.params.followText "set-order")) }).objs.size = s.heap.objs.size + 1 := Heap.size_push ..
        have hneI : l ≠ (s.heap.push { cls := .type "set", dict := none, data := .set #[] 0 (.fresh 0 0 (!w.params.followText "set-order")) }).objs.size := by
          rw [Heap.size_push]
          exact Nat.ne_of_lt (Nat.lt_succ_of_lt hlS)
        have hSf : s.heap.objs.size ∉ [(s.heap.push { cls := .type "set", dict := none, data := .set #[] 0 (.fresh 0 0 (!w.params.followText "set-order")) }).objs.size, l] := by
          rw [Heap.size_push]
          simp only [List.mem_cons, List.mem_singleton, List.not_mem_nil, or_false, not_or]
          exact ⟨Nat.ne_of_lt (Nat.lt_succ_self _), Nat.ne_of_gt hlS⟩
        have hval : ∀ (i : Nat) (v : Value), items[i]? = some v → ∃ k, ks[i]? = some k ∧ knd.is k v = true ∧ v.scannable = true := fun i v hv => by
          have q : items.toList[i]? = some v := by rw [Array.getElem?_toList]; exact hv
          exact paired_getR (R := fun k (v : Value) => knd.is k v = true ∧ v.scannable = true) hit q
        have none_of : ∀ b, s.heap.objs.size ≤ b → s.heap.get? b = none := fun b hb => by
          cases q : s.heap.get? b with
          | none => rfl
          | some o => exact absurd (Nat.lt_of_lt_of_le (Heap.lt_size q) hb) (Nat.lt_irrefl _)
        refine upd_keys (knd := knd) ((Walks.tuple hh3 _ l hneI items).toS) s.heap.objs.size
          hSf ks hisz hfew hval s.heap (none_of _ (Nat.le_refl _)) (fun b hb => none_of b (by
            rw [List.mem_singleton.mp hb, Heap.size_push]
            exact Nat.le_succ _)) (items.size - 0) 0 _ (by omega) (Nat.zero_le _)
          ⟨⟨_, Heap.get?_push_size _ rfl, rfl, rfl⟩, (hl1.push _)⟩ (fun b o e => Heap.get?_push_of_some _ (Heap.get?_push_of_some _ e)) (fr0.at fun o e => Heap.get?_push_of_some _ e) ?hR
        intro s' hm hS' hkp
        obtain ⟨h', g2, d', tk', os'⟩ := s'
        have eg : g2 = s.gens := hm.gens
        have ed : d' = s.drawn := hm.drawn
        have eo : os' = s.os := hm.os
        subst eg; subst ed; subst eo
        show wpAny _ _ _ _ _ _
        refine wpAny_pure ?_
        show wpAny _ _ (ret Value.none) _ _ _
        exact wpAny_pure ⟨rfl, h', tk', rfl, hS', hkp⟩
      · cases r₂ with
        | error e => exact hr₂
        | ok fl₂ =>
          cases fl₂ with
          | ret r =>
            obtain ⟨rfl, h', tk, rfl, hS', hk'⟩ := hr₂
            repeat (any_goals (first | assumption | wp_step))
            exact h h' _ hS' hk'
          | _ => exact hr₂.elim
    | _ => exact hr.elim
end
/-- set(tuple of texts) -/
def rSetOfT (K : PySem.W.Frag) (P : Program) (w : World) : List V → Hp → VK → Prop := fun xs H Q => ∃ (l : Addr) (zs : List Str), xs = [.ref l] ∧ SqT K H l (zs.map V.str) ∧ zs.length ≤ 1000 ∧ ∀ a, H a = none → Q (.ref a) (upd H a (SetKo P w a ((insAll zs).map Sum.inr)))
section
variable {X : Cx}
theorem cr_setOfT (hc : X.calm = true) : CallR X (.type "set") (rSetOfT X.K X.prog X.w) := by
  intro pins s σ H xs us Q I r h
  obtain ⟨l, zs, rfl, hl, hz, q⟩ := h
  rw [Vals.ref1 r]
  obtain ⟨its, rv, pl, hsz⟩ := I.tuple hl
  have hn : H s.heap.objs.size = none := I.hok.fresh (Nat.le_refl _)
  refine call_setGT (knd := mixKind X.prog X.w) (zs.map Sum.inr) (I.ok.hd hc) pl ?_ (by rw [List.length_map]; exact Nat.lt_of_le_of_lt (Nat.succ_le_succ hz) (by decide)) fun h' tk R k => ?_
  · rw [List.toList_toArray]
    clear hl hsz pl q r hz
    induction zs generalizing its with
    | nil =>
      cases rv
      exact .nil
    | cons z r ih =>
      cases rv with
      | cons h1 h2 => exact .cons (kV_sc (k := .inr z) h1) (ih _ h2)
  · rw [insAll_map] at R
    exact ⟨.ref s.heap.objs.size, _, I.laid (t' := tk) k (Nat.le_refl _) (setKo_new R), rfl, q _ hn⟩
end
end WW

set_option Elab.async false
set_option linter.all false
set_option maxRecDepth 100000
set_option maxHeartbeats 4000000
namespace WW
open PySem PySem.Spec PyProof.Rows L2
theorem hu70 {A : Around} {k : Nat} (hr : Room k A) : A.units + 70 < cLine := by
  have := hr.un
  omega
/-! ### texts in order -/
def leS (a b : Str) : Bool := decide (a.cps.toList ≤ b.cps.toList)
theorem str_ext {a b : Str} (h : a.cps.toList = b.cps.toList) : a = b := by
  cases a with
  | mk x =>
    cases b with
    | mk y =>
      have : x = y := Array.toList_inj.mp h
      rw [this]
theorem leS_trans : ∀ x y z, leS x y = true → leS y z = true → leS x z = true := fun x y z h1 h2 => decide_eq_true (List.le_trans (of_decide_eq_true h1) (of_decide_eq_true h2))
theorem leS_total : ∀ x y, (leS x y || leS y x) = true := fun x y => by
  rw [Bool.or_eq_true]
  rcases List.le_total x.cps.toList y.cps.toList with h | h
  · exact .inl (decide_eq_true h)
  · exact .inr (decide_eq_true h)
theorem leS_anti : ∀ x y, leS x y = true → leS y x = true → x = y := fun x y h1 h2 => str_ext (List.le_antisymm (of_decide_eq_true h1) (of_decide_eq_true h2))
theorem sortS_perm {l l' : List Str} (h : l.Perm l') : l.mergeSort leS = l'.mergeSort leS := by
  refine PySem.W.Srt.the_of_perm leS leS_trans leS_total leS_anti ((List.mergeSort_perm l leS).trans h) ?_
  exact List.pairwise_mergeSort leS_trans leS_total l
theorem srtD_strs (ys : List Str) : srtD (ys.map fun z => (V.str z, PyData.str z)) = (ys.mergeSort leS).map V.str := by
  unfold srtD
  have e : ((ys.map fun z => (V.str z, PyData.str z)).mergeSort (PySem.W.dataLe false fun z : V × PyData => z.2)) = (ys.mergeSort leS).map fun z => (V.str z, PyData.str z) := by
    refine (PySem.W.sort_maps (fun z => (V.str z, PyData.str z)) fun a _ b _ => ?_).symm
    have := congrFun (congrFun (PySem.W.dataLe_str (fun z : Str => z)) a) b
    exact this.symm
  rw [e, List.map_map]
  rfl
theorem nodup_mem_perm {α : Type} [DecidableEq α] : ∀ {l l' : List α}, l.Nodup → l'.Nodup → (∀ x, x ∈ l ↔ x ∈ l') → l.Perm l'
  | [], l', _, _, h => by
    cases l' with
    | nil => exact .nil
    | cons x r => exact absurd ((h x).mpr (by simp)) (by simp)
  | x :: r, l', n1, n2, h => by
    have hx : x ∈ l' := (h x).mp (by simp)
    refine List.Perm.trans (List.Perm.cons x ?_) (List.perm_cons_erase hx).symm
    refine nodup_mem_perm (List.nodup_cons.mp n1).2 (n2.erase x) fun y => ?_
    rw [n2.mem_erase_iff]
    constructor
    · intro hy
      exact ⟨fun e => (List.nodup_cons.mp n1).1 (e ▸ hy), (h y).mp (by simp [hy])⟩
    · rintro ⟨e, hy⟩
      rcases List.mem_cons.mp ((h y).mpr hy) with q | q
      · exact absurd q e
      · exact q
theorem paired_get {α β : Type} {R : α → β → Prop} : ∀ {xs : List α} {ts : List β} {i : Nat} {x : α}, Paired R xs ts → xs[i]? = some x → ∃ t, ts[i]? = some t ∧ R x t
  | _, _, _, _, .nil, e => by simp at e
  | _, _, 0, _, .cons r _, e => by simp at e; subst e; exact ⟨_, rfl, r⟩
  | _, _, i + 1, x, .cons _ t, e => by
    obtain ⟨u, h1, h2⟩ := paired_get (i := i) (x := x) t (by simpa using e)
    exact ⟨u, by simpa using h1, h2⟩
theorem name_sok {z : Str} (h : NameOk z) : PyData.strOk z = true := by
  unfold PyData.strOk
  rw [Array.all_eq_true_iff_forall_mem]
  intro c hc
  have h1 : ∀ c ∈ smallS.cps.toList, c < 0x110000 := by decide +kernel
  exact decide_eq_true (h1 c (h.2.2 c (by simpa using hc)))
theorem nmB_iff (z : Str) : nmB z = true ↔ NameOk z := by
  unfold nmB NameOk
  simp only [Bool.and_eq_true, decide_eq_true_eq, List.all_eq_true]
  constructor
  · rintro ⟨⟨h1, h2⟩, h3⟩
    exact ⟨h1, h2, h3⟩
  · rintro ⟨h1, h2, h3⟩
    exact ⟨⟨h1, h2⟩, h3⟩
theorem take_next {α : Type} {l : List α} {i : Nat} {x : α} (h : l[i]? = some x) : l.take (i + 1) = l.take i ++ [x] := by
  rw [List.take_add_one, h]
  rfl
theorem strs_dp {K : PySem.W.Frag} {H : Hp} : ∀ zs : List Str, DpAll K H (zs.map V.str) (zs.map PyData.str)
  | [] => .nil
  | z :: r => .cons (.str z) (strs_dp r)
structure Wd (p : Addr) (S0 H0 S H : Hp) : Prop where
  pl : Pool S H p
  gr : Gr p S0 H0 S H
theorem Wd.alloc {p : Addr} {S0 H0 S H : Hp} {a : Addr} (w : Wd p S0 H0 S H) (n : H a = none) (o : HO) : Wd p S0 H0 (upd S a o) (upd H a o) ∧ Same S (upd S a o) ∧ upd S a o a = some o :=
  ⟨⟨w.pl.new n, w.gr.new w.pl.ss n⟩, same_upd (w.pl.ss.free n), upd_same⟩
theorem Wd.then_ {p : Addr} {S0 H0 S H S' H' : Hp} (w : Wd p S0 H0 S H) (P' : Pool S' H' p) (g : Gr p S H S' H') : Wd p S0 H0 S' H' ∧ Same S S' := ⟨⟨P', w.gr.trans g⟩, g.st⟩
theorem Wd.ss {p : Addr} {S0 H0 S H : Hp} (w : Wd p S0 H0 S H) : Same S H := w.pl.ss
theorem Wd.more {p : Addr} {S0 H0 S H H' : Hp} (w : Wd p S0 H0 S H) (s : Same H H') : Wd p S0 H0 S H' := ⟨w.pl.same s, w.gr.same s⟩
theorem Wd.put {p l : Addr} {S0 H0 S H : Hp} {o : HO} (w : Wd p S0 H0 S H) (n0 : H0 l = none) (sl : S l = none) (nlp : l ≠ p) : Wd p S0 H0 S (upd H l o) := ⟨w.pl.put sl nlp, w.gr.put n0⟩
theorem Wd.fix {p l : Addr} {S0 H0 S H : Hp} {o : HO} (w : Wd p S0 H0 S H) (h : H l = some o) (n0 : H0 l = none) (sl : S l = none) (nlp : l ≠ p) : ∃ S', Wd p S0 H0 S' H ∧ Same S S' ∧ S' l = some o :=
  ⟨upd S l o, ⟨w.pl.fix h sl nlp, w.gr.fix n0 sl⟩, same_upd sl, upd_same⟩
theorem Wd.new {p : Addr} {S0 H0 S H : Hp} {a : Addr} (w : Wd p S0 H0 S H) (n : H a = none) (o : HO) : ∃ S', Wd p S0 H0 S' (upd H a o) ∧ Same S S' ∧ S' a = some o := ⟨_, w.alloc n o⟩
theorem pair_app {α β : Type} {R : α → β → Prop} : ∀ {xs ys : List α} {ts us : List β}, Paired R xs ts → Paired R ys us → Paired R (xs ++ ys) (ts ++ us)
  | _, _, _, _, .nil, h => h
  | _, _, _, _, .cons r t, h => .cons r (pair_app t h)
theorem pair_cast {α β : Type} {R : α → β → Prop} {xs ys : List α} {ts us : List β} (e : ys = xs) (e2 : us = ts) (h : Paired R xs ts) : Paired R ys us := by
  subst e
  subst e2
  exact h
theorem at_all {xs : List V} {d : Int} (h0 : 0 ≤ d) (h1 : d < (xs.length : Int)) : ∃ v, atI xs d = some v ∧ v ∈ xs := by
  obtain ⟨j, rfl⟩ : ∃ j : Nat, d = (j : Int) := ⟨d.toNat, by omega⟩
  have hj : j < xs.length := by omega
  exact ⟨xs[j], atI_nat (List.getElem?_eq_getElem hj), List.getElem_mem hj⟩
theorem kd_non (K : PySem.W.Frag) (H : Hp) : Kd K H .non "NoneType" := ⟨.base .non, by decide, fun z e => by cases e⟩
theorem kd_bl (K : PySem.W.Frag) (H : Hp) (b : Bool) : Kd K H (.bl b) "bool" := ⟨.base (.bl b), by decide, fun z e => by cases e⟩

/-! ### data of bounded size -/
def Sz : Nat → PyData → Bool
  | 0 => fun d => match d with
    | .none => true
    | .bool _ => true
    | .int _ => true
    | .str z => PyData.strOk z && decide (z.length ≤ 1000)
    | _ => false
  | n + 1 => fun d => match d with
    | .none => true
    | .bool _ => true
    | .int _ => true
    | .str z => PyData.strOk z && decide (z.length ≤ 1000)
    | .list ds => decide (ds.length ≤ 900) && ds.all (Sz n)
    | .tuple ds => decide (ds.length ≤ 900) && ds.all (Sz n)
    | .dict _ => false
theorem lay_all {ds : List PyData} (h : ∀ d ∈ ds, d.canLay0 = true) : PyData.canLayAll0 ds = true := by
  induction ds with
  | nil => rfl
  | cons d r ih =>
    simp only [PyData.canLayAll0, h d (by simp), ih fun x hx => h x (by simp [hx]), Bool.and_true]
theorem depth_all {n : Nat} {ds : List PyData} (h : ∀ d ∈ ds, d.depth ≤ n) : PyData.depthAll ds ≤ n := by
  induction ds with
  | nil => simp [PyData.depthAll]
  | cons d r ih =>
    simp only [PyData.depthAll]
    exact Nat.max_le.mpr ⟨h d (by simp), ih fun x hx => h x (by simp [hx])⟩
theorem sz_lay : ∀ (n : Nat) (d : PyData), Sz n d = true → d.canLay0 = true ∧ d.depth ≤ n
  | 0, .none, _ => ⟨rfl, by simp [PyData.depth]⟩
  | 0, .bool _, _ => ⟨rfl, by simp [PyData.depth]⟩
  | 0, .int _, _ => ⟨rfl, by simp [PyData.depth]⟩
  | 0, .str z, h => by
    have h : (PyData.strOk z && decide (z.length ≤ 1000)) = true := h
    rw [Bool.and_eq_true] at h
    exact ⟨by simp only [PyData.canLay0]; exact h.1, by simp [PyData.depth]⟩
  | 0, .list _, h => by cases h
  | 0, .tuple _, h => by cases h
  | 0, .dict _, h => by cases h
  | n + 1, .none, _ => ⟨rfl, by simp [PyData.depth]⟩
  | n + 1, .bool _, _ => ⟨rfl, by simp [PyData.depth]⟩
  | n + 1, .int _, _ => ⟨rfl, by simp [PyData.depth]⟩
  | n + 1, .str z, h => by
    have h : (PyData.strOk z && decide (z.length ≤ 1000)) = true := h
    rw [Bool.and_eq_true] at h
    exact ⟨by simp only [PyData.canLay0]; exact h.1, by simp [PyData.depth]⟩
  | n + 1, .list ds, h => by
    have h : (decide (ds.length ≤ 900) && ds.all (Sz n)) = true := h
    rw [Bool.and_eq_true] at h
    have h2 := List.all_eq_true.mp h.2
    simp only [PyData.canLay0, PyData.depth]
    exact ⟨lay_all fun d hd => (sz_lay n d (h2 d hd)).1, Nat.succ_le_succ (depth_all fun d hd => (sz_lay n d (h2 d hd)).2)⟩
  | n + 1, .tuple ds, h => by
    have h : (decide (ds.length ≤ 900) && ds.all (Sz n)) = true := h
    rw [Bool.and_eq_true] at h
    have h2 := List.all_eq_true.mp h.2
    simp only [PyData.canLay0, PyData.depth]
    exact ⟨lay_all fun d hd => (sz_lay n d (h2 d hd)).1, Nat.succ_le_succ (depth_all fun d hd => (sz_lay n d (h2 d hd)).2)⟩
  | n + 1, .dict _, h => by cases h
theorem sz_shaped {n : Nat} {d : PyData} (h : Sz n d = true) (hn : n ≤ 64) : SeqAt.shaped d = true := by
  obtain ⟨h1, h2⟩ := sz_lay n d h
  show (d.canLay0 && decide (d.depth ≤ 64)) = true
  rw [h1, decide_eq_true (Nat.le_trans h2 hn)]
  rfl
theorem sz_str {n : Nat} {z : Str} (h : Sz n (.str z) = true) : PyData.strOk z = true ∧ z.length ≤ 1000 := by
  have h : (PyData.strOk z && decide (z.length ≤ 1000)) = true := by
    cases n <;> exact h
  rw [Bool.and_eq_true, decide_eq_true_eq] at h
  exact h
theorem sz_tup {n : Nat} {ds : List PyData} (h : Sz n (.tuple ds) = true) : ds.length ≤ 900 ∧ ∀ d ∈ ds, Sz (n - 1) d = true := by
  cases n with
  | zero => cases h
  | succ n =>
    have h : (decide (ds.length ≤ 900) && ds.all (Sz n)) = true := h
    rw [Bool.and_eq_true, decide_eq_true_eq] at h
    exact ⟨h.1, List.all_eq_true.mp h.2⟩
theorem sz_succ : ∀ (n : Nat) (d : PyData), Sz n d = true → Sz (n + 1) d = true
  | 0, .none, h | 0, .bool _, h | 0, .int _, h | 0, .str _, h | _ + 1, .none, h | _ + 1, .bool _, h | _ + 1, .int _, h | _ + 1, .str _, h => h
  | 0, .list _, h | 0, .tuple _, h | 0, .dict _, h | _ + 1, .dict _, h => by cases h
  | n + 1, .list ds, h => by
    have h : (decide (ds.length ≤ 900) && ds.all (Sz n)) = true := h
    rw [Bool.and_eq_true] at h
    have h2 := List.all_eq_true.mp h.2
    show (decide (ds.length ≤ 900) && ds.all (Sz (n + 1))) = true
    rw [h.1, Bool.true_and]
    exact List.all_eq_true.mpr fun d hd => sz_succ n d (h2 d hd)
  | n + 1, .tuple ds, h => by
    have h : (decide (ds.length ≤ 900) && ds.all (Sz n)) = true := h
    rw [Bool.and_eq_true] at h
    have h2 := List.all_eq_true.mp h.2
    show (decide (ds.length ≤ 900) && ds.all (Sz (n + 1))) = true
    rw [h.1, Bool.true_and]
    exact List.all_eq_true.mpr fun d hd => sz_succ n d (h2 d hd)
theorem sz_le {m n : Nat} (h : m ≤ n) {d : PyData} (s : Sz m d = true) : Sz n d = true := by
  induction h with
  | refl => exact s
  | step _ ih => exact sz_succ _ _ ih
mutual
theorem eqv_refl : ∀ (d : PyData), d.canLay0 = true → PyData.eqv d d = true
  | .none, _ => rfl
  | .bool b, _ => by simp [PyData.eqv]
  | .int i, _ => by simp [PyData.eqv]
  | .str x, _ => by simp [PyData.eqv]
  | .list ds, h => by simp only [PyData.eqv]; exact eqvAll_refl ds (by simpa only [PyData.canLay0] using h)
  | .tuple ds, h => by simp only [PyData.eqv]; exact eqvAll_refl ds (by simpa only [PyData.canLay0] using h)
  | .dict _, h => by simp [PyData.canLay0] at h
theorem eqvAll_refl : ∀ (ds : List PyData), PyData.canLayAll0 ds = true → PyData.eqvAll ds ds = true
  | [], _ => rfl
  | d :: r, h => by
    simp only [PyData.canLayAll0, Bool.and_eq_true] at h
    simp only [PyData.eqvAll, Bool.and_eq_true]
    exact ⟨eqv_refl d h.1, eqvAll_refl r h.2⟩
end
def kn : PyData → String
  | .none => "NoneType"
  | .bool _ => "bool"
  | .int _ => "int"
  | .str _ => "str"
  | .list _ => "list"
  | .tuple _ => "tuple"
  | .dict _ => "dict"
theorem kd_of {K : PySem.W.Frag} {H : Hp} {v : V} {n : Nat} {d : PyData} (h : Dp K H v d) (s : Sz n d = true) : Kd K H v (kn d) := by
  cases h with
  | non => exact kd_non K H
  | bl b => exact kd_bl K H b
  | int i => exact kd_int K H i
  | str x => exact kd_str K H (Nat.le_trans (sz_str s).2 (by decide))
  | lst a b =>
    refine ⟨?_, (by decide : "list" ∈ kinds), fun z e => by cases e⟩
    rcases a with (a | ⟨o, a⟩) | ⟨o, its, n, h1, h2, _⟩
    · exact .base (.lst a)
    · exact .base (.frz a)
    · exact .kList h1 h2
  | tup a b =>
    refine ⟨?_, (by decide : "tuple" ∈ kinds), fun z e => by cases e⟩
    rcases a with (a | ⟨o, a⟩) | ⟨o, its, n, h1, h2, _⟩
    · exact .base (.tup a)
    · exact .fTuple a
    · exact .kTuple h1 h2
theorem dp_tup {K : PySem.W.Frag} {H : Hp} {v : V} {ds : List PyData} (h : Dp K H v (.tuple ds)) : ∃ a xs, v = .ref a ∧ SqT K H a xs ∧ DpAll K H xs ds := by
  cases h with
  | tup a b => exact ⟨_, _, rfl, a, b⟩
theorem dpa_len {K : PySem.W.Frag} {H : Hp} : ∀ {xs : List V} {ds : List PyData}, DpAll K H xs ds → xs.length = ds.length
  | _, [], h => by cases h; rfl
  | _, d :: r, h => by
    cases h with
    | cons a b => rw [List.length_cons, List.length_cons, dpa_len b]
theorem dpa_get {K : PySem.W.Frag} {H : Hp} : ∀ {xs : List V} {ds : List PyData} {i : Nat} {d : PyData}, DpAll K H xs ds → ds[i]? = some d → ∃ v, xs[i]? = some v ∧ Dp K H v d
  | _, [], _, _, _, e => by simp at e
  | _, d :: r, 0, _, h, e => by
    cases h with
    | cons a b =>
      simp at e
      subst e
      exact ⟨_, rfl, a⟩
  | _, d :: r, i + 1, _, h, e => by
    cases h with
    | cons a b =>
      obtain ⟨v, h1, h2⟩ := dpa_get (i := i) b (by simpa using e)
      exact ⟨v, by simpa using h1, h2⟩
theorem dpa_mem {K : PySem.W.Frag} {H : Hp} : ∀ {xs : List V} {ds : List PyData} {v : V}, DpAll K H xs ds → v ∈ xs → ∃ d, d ∈ ds ∧ Dp K H v d
  | _, [], _, h, m => by cases h; simp at m
  | _, d :: r, v, h, m => by
    cases h with
    | cons a b =>
      rcases List.mem_cons.mp m with e | m
      · subst e
        exact ⟨d, by simp, a⟩
      · obtain ⟨e, h1, h2⟩ := dpa_mem b m
        exact ⟨e, by simp [h1], h2⟩
theorem dpa_strs {K : PySem.W.Frag} {H : Hp} : ∀ {xs : List V} {ys : List Str}, DpAll K H xs (ys.map PyData.str) → xs = ys.map V.str
  | _, [], h => by cases h; rfl
  | _, z :: r, h => by
    cases h with
    | cons a b =>
      cases a
      rw [dpa_strs b]
      rfl
def nmD : PyData → Bool
  | .str z => nmB z
  | _ => false
theorem isNm_dp {K : PySem.W.Frag} {H : Hp} {v : V} {d : PyData} (h : Dp K H v d) : isNm v = nmD d := by
  cases h <;> rfl
def btwD (lo hi : Int) : PyData → Bool
  | .int i => decide (lo ≤ i) && decide (i ≤ hi)
  | _ => false
theorem btw_dp {K : PySem.W.Frag} {H : Hp} {v : V} {d : PyData} (lo hi : Int) (h : Dp K H v d) : btw lo hi v = btwD lo hi d := by
  cases h <;> rfl
end WW

set_option Elab.async false
set_option linter.all false
set_option maxRecDepth 100000
set_option maxHeartbeats 4000000
namespace WW
open PySem PySem.Spec PyProof.Rows L2
/-! ### dicts of texts -/
abbrev KS := List (Key × Str)
def vS (ks : KS) : List (Key × V) := ks.map fun p => (p.1, V.str p.2)
theorem vS_val (ks : KS) (k : Key) : valV (vS ks) k = ((ks.find? fun p => decide (p.1 = k)).map (·.2)).map V.str := by
  unfold valV vS
  induction ks with
  | nil => rfl
  | cons p r ih =>
    rw [List.map_cons, List.find?_cons, List.find?_cons]
    by_cases h : p.1 = k
    · simp [h]
    · simp only [h, decide_false]
      exact ih
def valS (ks : KS) (k : Key) : Option Str := (ks.find? fun p => decide (p.1 = k)).map (·.2)
def sameS (ks ls : KS) : Bool := (ks.length == ls.length) && ks.all fun p => decide (valS ls p.1 = some p.2)
theorem hits_S {A : Around} {s : Shared} {ls : KS} {vb : List (Key × Value)} (rb : KV (vS ls) vb) : ∀ {ks : KS} {va : List (Key × Value)}, KV (vS ks) va → PySem.W.KeqHits A s vb va (ks.all fun p => decide (valS ls p.1 = some p.2))
  | [], _, ra => by
    cases ra
    exact .nil
  | p :: r, va, ra => by
    cases ra with
    | @cons _ q _ qs h t =>
      obtain ⟨h1, h2⟩ := h
      obtain ⟨k, v⟩ := q
      have h1' : p.1 = k := h1
      have ih := hits_S (A := A) (s := s) rb t
      have rr := rb.val k
      rw [vS_val] at rr
      have e0 : (ls.find? fun q => decide (q.1 = k)).map (·.2) = valS ls k := rfl
      rw [e0] at rr
      rw [List.all_cons, h1']
      obtain ⟨tv, rfl⟩ := (show ∃ t, v = Value.str p.2 t from h2)
      cases hv : valS ls k with
      | none =>
        rw [hv] at rr
        have hn : valueAt vb k = none := by
          cases hq : valueAt vb k with
          | none => rfl
          | some y =>
            rw [hq] at rr
            exact rr.elim
        have := PySem.W.KeqHits.miss (A := A) (s := s) (v := Value.str p.2 tv) (r := qs) hn
        simpa using this
      | some z =>
        rw [hv] at rr
        obtain ⟨y, hy, ry⟩ := (show RelO (some (V.str z)) (valueAt vb k) from rr).some_of
        obtain ⟨ty, rfl⟩ := (show ∃ t, y = Value.str z t from ry)
        have hit := PySem.W.KeqHits.hit (A := A) (s := s) (v := Value.str p.2 tv) (e := p.2 == z) hy (SeqAt.EqAt.str_str p.2 tv z ty) ih
        have e1 : (p.2 == z) = decide (some z = some p.2) := by
          by_cases c : p.2 = z
          · subst c
            simp
          · have c' : ¬ some z = some p.2 := fun e => c (Option.some.inj e).symm
            rw [decide_eq_false c']
            exact beq_eq_false_iff_ne.mpr c
        rw [e1] at hit
        exact hit
section
variable {X : Cx}
def rEqDS : R2 := fun x y H Q => ∃ a b ks ls, x = .ref a ∧ y = .ref b ∧ H a = some (.dK (vS ks)) ∧ H b = some (.dK (vS ls)) ∧ Q (.bl (sameS ks ls)) H
def rNeDS : R2 := fun x y H Q => ∃ a b ks ls, x = .ref a ∧ y = .ref b ∧ H a = some (.dK (vS ks)) ∧ H b = some (.dK (vS ls)) ∧ Q (.bl (!sameS ks ls)) H
theorem vS_len (ks : KS) : (vS ks).length = ks.length := List.length_map ..
theorem op_eqDS (hu : X.A.units < cLine) : OpR X (compareOp .Eq) rEqDS := by
  intro pins s σ H x y v u Q I rx ry h
  obtain ⟨a, b, ks, ls, rfl, rfl, ea, eb, q⟩ := h
  obtain rfl : v = Value.ref a := rx
  obtain rfl : u = Value.ref b := ry
  obtain ⟨_, ya, va, ra, da⟩ := (show ObjOk X.prog X.w H s.heap a (.dK (vS ks)) from I.hok a _ ea)
  obtain ⟨_, yb, vb, rb, db⟩ := (show ObjOk X.prog X.w H s.heap b (.dK (vS ls)) from I.hok b _ eb)
  have l1 : va.length = ks.length := by rw [← ra.length, vS_len]
  have l2 : vb.length = ls.length := by rw [← rb.length, vS_len]
  exact PySem.W.keq_eq (knd := mixKind X.prog X.w) (r := ks.all fun p => decide (valS ls p.1 = some p.2)) ya yb da db hu (fun _ => hits_S rb ra) (fin_bl I q (by rw [l1, l2]; rfl))
theorem op_neDS (hu : X.A.units < cLine) : OpR X (compareOp .NotEq) rNeDS := by
  intro pins s σ H x y v u Q I rx ry h
  obtain ⟨a, b, ks, ls, rfl, rfl, ea, eb, q⟩ := h
  obtain rfl : v = Value.ref a := rx
  obtain rfl : u = Value.ref b := ry
  obtain ⟨_, ya, va, ra, da⟩ := (show ObjOk X.prog X.w H s.heap a (.dK (vS ks)) from I.hok a _ ea)
  obtain ⟨_, yb, vb, rb, db⟩ := (show ObjOk X.prog X.w H s.heap b (.dK (vS ls)) from I.hok b _ eb)
  have l1 : va.length = ks.length := by rw [← ra.length, vS_len]
  have l2 : vb.length = ls.length := by rw [← rb.length, vS_len]
  exact PySem.W.keq_ne (knd := mixKind X.prog X.w) (r := ks.all fun p => decide (valS ls p.1 = some p.2)) ya yb da db hu (fun _ => hits_S rb ra) (fin_bl I q (by rw [l1, l2]; rfl))
/-- dict(d) -/
theorem cr_dictD : CallR X (.type "dict") (fun xs H Q => ∃ (a : Addr) (kvs : List (Key × V)), xs = [.ref a] ∧ Rd H a (.dK kvs) ∧ ∀ p, H p = none → Q (.ref p) (upd H p (.dK kvs))) := by
  intro pins s σ H xs us Q I r h
  obtain ⟨a, kvs, rfl, ha, q⟩ := h
  rw [Vals.ref1 r]
  exact d_copyOf I ha fun p s' np I' => ⟨.ref p, _, I', rfl, q p np⟩
/-- d.clear() -/
theorem mt_clearD : MtR X "dict.clear" (fun x xs H Q => ∃ (a : Addr) (kvs : List (Key × V)), x = .ref a ∧ xs = [] ∧ H a = some (.dK kvs) ∧ Q .non (upd H a (.dK []))) := by
  intro pins s σ H x xs v us Q I rx rs h
  obtain ⟨a, kvs, rfl, rfl, ha, q⟩ := h
  cases rs
  obtain rfl : v = Value.ref a := rx
  exact d_clear I ha fun s' I' => ⟨.non, _, I', rfl, q⟩
/-- d.copy() -/
theorem mt_copyD : MtR X "dict.copy" (fun x xs H Q => ∃ (a : Addr) (kvs : List (Key × V)), x = .ref a ∧ xs = [] ∧ H a = some (.dK kvs) ∧ ∀ p, H p = none → Q (.ref p) (upd H p (.dK kvs))) := by
  intro pins s σ H x xs v us Q I rx rs h
  obtain ⟨a, kvs, rfl, rfl, ha, q⟩ := h
  cases rs
  obtain rfl : v = Value.ref a := rx
  obtain ⟨z, hd, vs, rel, dd⟩ := dk_of I.hok ha
  refine call_meetsIn PySem.F.slot_dict_copy dd.typeIs PySem.F.entry_dict_copy (PySem.F.args_dict_copy_1 _) (meets_dict_copy (mixKind X.prog X.w) a hd) ⟨vs, dd, by rw [← rel.length]; exact z, fun h' dd' _ hs => ?_⟩
  have hn := I.hok.fresh (Nat.le_refl s.heap.objs.size)
  refine ⟨.ref s.heap.objs.size, _, I.laid (a := s.heap.objs.size) (o := .dK kvs) (t' := s.toks) hs (Nat.le_refl _) (dk_new z (beq_eq_false_iff_ne.mpr (Ne.symm (Nat.ne_of_lt I.big))) rel dd'), rfl, q _ hn⟩
end
/-- over a list that stays -/
theorem dc_list {K : PySem.W.Frag} {a : Addr} {xs : List V} {g : TG} {tt : TT} {tk tv : TE} {vs : List Nat} {σ : L2.St} {H1 : Hp} {D : Addr} {Qd : Hp → Prop} (Pv : Nat → Hp → Prop) (h0 : Pv 0 (upd H1 D (.dK []))) (hl : ∀ i H, i ≤ xs.length → Pv i H → SqL K H a xs)
    (hs : ∀ i x H, xs[i]? = some x → Pv i H → g x (wipe σ vs) H fun σ2 H2 => wipe σ2 vs = wipe σ vs ∧ tt σ2 H2 fun b H3 =>
      if b = true then tk σ2 H3 fun y H4 => tv σ2 H4 fun z H5 => ∃ kvs k, y = kV k ∧ H5 D = some (.dK kvs) ∧ kvs.length < sizeLine ∧ Pv (i + 1) (upd H5 D (.dK (putK kvs k z))) else Pv (i + 1) H3) (hd : ∀ H, Pv xs.length H → Qd H) :
    ∃ W : Nat → Nat → Hp → Prop, (∃ m, W 0 m (upd H1 D (.dK []))) ∧ ∀ i m H, W i m H →
      ((Itl K a).stop i H ∧ Qd H) ∨ ((Itl K a).go i H ∧ ∃ Nx : Hp → Prop, (∀ H', Nx H' → ∃ m', m' < m ∧ W (i + 1) m' H') ∧ ∀ x H', (Itl K a).yld i H x H' → g x (wipe σ vs) H' fun σ2 H2 => wipe σ2 vs = wipe σ vs ∧ tt σ2 H2 fun b H3 =>
        if b = true then tk σ2 H3 fun y H4 => tv σ2 H4 fun z H5 => ∃ kvs k, y = kV k ∧ H5 D = some (.dK kvs) ∧ kvs.length < sizeLine ∧ Nx (upd H5 D (.dK (putK kvs k z))) else Nx H3) := by
  refine ⟨fun i m H => m = xs.length - i ∧ i ≤ xs.length ∧ Pv i H, ⟨xs.length, by simp, Nat.zero_le _, h0⟩, ?_⟩
  rintro i m H ⟨rfl, hi, p⟩
  have q := hl i H hi p
  by_cases hlt : i < xs.length
  · refine .inr ⟨⟨xs, xs[i], q, by simp [hlt]⟩, Pv (i + 1), fun H' p' => ⟨xs.length - (i + 1), by omega, rfl, hlt, p'⟩, fun x H' y => ?_⟩
    obtain ⟨e, y⟩ := y
    subst e
    exact hs i x _ (y xs q) p
  · have e : i = xs.length := by omega
    subst e
    exact .inl ⟨⟨xs, q, Nat.le_refl _⟩, hd H p⟩
end WW

set_option Elab.async false
set_option linter.all false
set_option maxRecDepth 100000
set_option maxHeartbeats 4000000
namespace WW
open PySem PySem.Spec PyProof.Rows L2
/-! generic lemmas out of the texts of k75 (do not join this with BB .. BP) -/
def strsD (ys : List Str) : List PyData := ys.map PyData.str
theorem eqvAll_strs : ∀ xs ys : List Str, PyData.eqvAll (strsD xs) (strsD ys) = decide (xs = ys)
  | [], [] => rfl
  | [], _ :: _ => rfl
  | _ :: _, [] => rfl
  | x :: xs, y :: ys => by
    show (PyData.eqv (.str x) (.str y) && PyData.eqvAll (strsD xs) (strsD ys)) = _
    rw [eqvAll_strs xs ys]
    show ((x == y) && _) = _
    by_cases h : x = y
    · subst h
      simp
    · simp [h]
def rngV (lo : Int) (n : Nat) : List V := (List.range n).map fun i => V.int (lo + (i : Nat))
theorem lc_pureR {lo : Int} {n : Nat} {j : Nat} {tt : TT} {te : TE} {vs : List Nat} {σ : L2.St} {H1 : Hp} {D : Addr} {Qd : Hp → Prop} (f : V → Option V) (hlen : n ≤ 1000)
    (hw : ∀ x, wipe ((wipe σ vs).set j (some x)) vs = wipe σ vs)
    (step : ∀ y H, y ∈ rngV lo n → Same H1 H → ∀ Q : Option V → Hp → Prop, (∀ H', Same H H' → Q (f y) H') → tt ((wipe σ vs).set j (some y)) H fun b H3 => if b = true then te ((wipe σ vs).set j (some y)) H3 (fun y H4 => Q (some y) H4) else Q none H3)
    (hD : H1 D = none) (hd : ∀ H, Same H1 H → H D = some (.lst ((rngV lo n).filterMap f)) → Qd H) :
    ∃ W : Nat → Nat → Hp → Prop, (∃ m, W 0 m (upd H1 D (.lst []))) ∧ ∀ i m H, W i m H →
      ((Itr lo n).stop i H ∧ Qd H) ∨ ((Itr lo n).go i H ∧ ∃ Nx : Hp → Prop, (∀ H', Nx H' → ∃ m', m' < m ∧ W (i + 1) m' H') ∧ ∀ y H', (Itr lo n).yld i H y H' → gName j y (wipe σ vs) H' fun σ2 H2 => wipe σ2 vs = wipe σ vs ∧ tt σ2 H2 fun b H3 =>
        if b = true then te σ2 H3 fun y H4 => ∃ acc, H4 D = some (.lst acc) ∧ acc.length < sizeLine ∧ Nx (upd H4 D (.lst (acc ++ [y]))) else Nx H3) := by
  have hl2 : (rngV lo n).length = n := by simp [rngV]
  refine lc_range (lo := lo) (n := n) (fun i H => Same H1 H ∧ H D = some (.lst (((rngV lo n).take i).filterMap f))) ⟨same_upd hD, upd_same⟩ (fun i H hi hp => ?_) (fun H h => ?_)
  · exact lc_step f (rngV lo n) (by omega) hw step hD i _ H (by unfold rngV; rw [List.getElem?_map, List.getElem?_range hi]; rfl) hp
  · exact hd H h.1 (by rw [h.2, List.take_of_length_le (by omega)])
theorem dpa_map {K : PySem.W.Frag} {H : Hp} {β : Type} {f : V → β} {g : PyData → β} (h : ∀ v d, Dp K H v d → f v = g d) : ∀ {xs : List V} {ds : List PyData}, DpAll K H xs ds → xs.map f = ds.map g
  | _, [], z => by cases z; rfl
  | _, d :: r, z => by
    cases z with
    | cons a b => rw [List.map_cons, List.map_cons, h _ _ a, dpa_map h b]
def noSm (v : V) : Option V := match v with
  | .str ⟨#[c]⟩ => if c ∈ smallS.cps.toList then none else some v
  | _ => none
theorem noSm_len (z : Str) : decide (((signs z).filterMap noSm).length = 0) = z.cps.toList.all fun c => decide (c ∈ smallS.cps.toList) := by
  unfold signs
  induction z.cps.toList with
  | nil => rfl
  | cons c r ih =>
    simp only [List.map_cons, List.filterMap_cons, List.all_cons]
    by_cases h : c ∈ smallS.cps.toList
    · have e : noSm (.str ⟨#[c]⟩) = none := by show (if c ∈ smallS.cps.toList then _ else _) = _; rw [if_pos h]
      rw [e, decide_eq_true h]
      exact ih
    · have e : noSm (.str ⟨#[c]⟩) = some (.str ⟨#[c]⟩) := by show (if c ∈ smallS.cps.toList then _ else _) = _; rw [if_neg h]
      rw [e, decide_eq_false h]
      simp
theorem int0 (n : Nat) : decide (V.int (n : Int) = V.int 0) = decide (n = 0) := by
  by_cases h : n = 0
  · rw [decide_eq_true h, decide_eq_true (by rw [h]; rfl)]
  · rw [decide_eq_false h, decide_eq_false (fun e => h (by injection e; omega))]
theorem fm_len0 {α β : Type} (f : α → Option β) (g : α → Bool) : ∀ {xs : List α}, (∀ x ∈ xs, (f x).isSome = !g x) → decide ((xs.filterMap f).length = 0) = xs.all g
  | [], _ => rfl
  | x :: r, h => by
    have ih := fm_len0 f g (xs := r) fun y hy => h y (by simp [hy])
    have hx := h x (by simp)
    rw [List.filterMap_cons, List.all_cons]
    cases q : f x with
    | none =>
      rw [q] at hx
      have : g x = true := by
        cases e : g x with
        | true => rfl
        | false => rw [e] at hx; cases hx
      rw [this, Bool.true_and]
      exact ih
    | some y =>
      rw [q] at hx
      have : g x = false := by
        cases e : g x with
        | false => rfl
        | true => rw [e] at hx; cases hx
      rw [this]
      simp
theorem szs {n : Nat} {r : List PyData} {e : PyData} (h : Sz (n + 1) (.tuple r) = true) (m : e ∈ r) : Sz n e = true := (sz_tup h).2 e m
theorem dv (a b : Str) : decide (V.str a = V.str b) = decide (a = b) := by
  by_cases h : a = b
  · rw [h, decide_eq_true rfl, decide_eq_true rfl]
  · rw [decide_eq_false h, decide_eq_false fun e => h (V.str.inj e)]
theorem di (a b : Nat) : decide (V.int (a : Int) = V.int (b : Int)) = decide (a = b) := by
  by_cases h : a = b
  · rw [h, decide_eq_true rfl, decide_eq_true rfl]
  · rw [decide_eq_false h, decide_eq_false fun e => h (by injection e; omega)]
theorem app_len (a b : Str) : (a ++ b).length = a.length + b.length := by
  rw [TL.len_tl, TL.tl_append, List.length_append, ← TL.len_tl, ← TL.len_tl]
theorem sl_ok {n m : Nat} (h : n ≤ m) (hm : m ≤ 1000000 := by decide) : n ≤ sizeLine := Nat.le_trans h (Nat.le_trans hm (by decide))
theorem sok_iff {z : Str} : PyData.strOk z = true ↔ ∀ c ∈ TL.tl z, c < 0x110000 := by
  unfold PyData.strOk
  rw [Array.all_eq_true_iff_forall_mem]
  constructor
  · intro h c hc
    exact of_decide_eq_true (h c (Array.mem_toList_iff.mp hc))
  · intro h c hc
    exact decide_eq_true (h c (Array.mem_toList_iff.mpr hc))
theorem dvf {a b : Str} (h : ¬ a = b) : decide (V.str a = V.str b) = false := by rw [dv, decide_eq_false h]
theorem dvt {a b : Str} (h : a = b) : decide (V.str a = V.str b) = true := by rw [dv, decide_eq_true h]
theorem szS {n : Nat} {z : Str} (h : PyData.strOk z = true) (l : z.length ≤ 1000) : Sz n (.str z) = true := by
  cases n <;> (show (PyData.strOk z && decide (z.length ≤ 1000)) = true; rw [h, decide_eq_true l]; rfl)
theorem szT {n : Nat} {ds : List PyData} (h : ∀ d ∈ ds, Sz n d = true) (l : ds.length ≤ 900) : Sz (n + 1) (.tuple ds) = true := by
  show (decide (ds.length ≤ 900) && ds.all (Sz n)) = true
  rw [decide_eq_true l]
  exact List.all_eq_true.mpr h
def strP (zs : List Str) : List (V × PyData) := zs.map fun z => (V.str z, PyData.str z)
theorem strP_fst (zs : List Str) : (strP zs).map (·.1) = zs.map V.str := by
  unfold strP
  rw [List.map_map]
  rfl
theorem strP_snd (zs : List Str) : (strP zs).map (·.2) = zs.map PyData.str := by
  unfold strP
  rw [List.map_map]
  rfl
theorem strP_ok (zs : List Str) : PySem.W.AllAlike ((strP zs).map (·.2)) ∧ PySem.W.Sortable ((strP zs).map (·.2)) := by
  rw [strP_snd]
  exact ⟨PySem.W.AllAlike.of fun b b' => rfl, PySem.W.Sortable.others fun b => ⟨fun z => (by cases z), fun _ z => (by cases z)⟩⟩
theorem strP_dp {K : PySem.W.Frag} {H : Hp} (zs : List Str) : ∀ x ∈ strP zs, Dp K H x.1 x.2 := fun x hx => by
  obtain ⟨z, _, rfl⟩ := List.mem_map.mp hx
  exact .str z
theorem strP_depth (zs : List Str) : ∀ x ∈ strP zs, x.2.depth ≤ 64 := fun x hx => by
  obtain ⟨z, _, rfl⟩ := List.mem_map.mp hx
  simp [PyData.depth]
theorem strP_srt (zs : List Str) : srtD (strP zs) = (zs.mergeSort leS).map V.str := srtD_strs zs
/-- data of depth n or less -/
def Gn (K : PySem.W.Frag) (n : Nat) (S : Hp) (v : V) : Prop := ∃ d, Dp K S v d ∧ Sz n d = true
def Gd (K : PySem.W.Frag) (S : Hp) (v : V) : Prop := Gn K 6 S v ∧ ∀ t, v = .str t → t.length ≤ 800
section
variable {K : PySem.W.Frag} {S S' : Hp} {v : V} {n m : Nat} {a : Addr} {xs : List V}
theorem Gn.mono (h : Gn K n S v) (s : Same S S') : Gn K n S' v := by
  obtain ⟨d, h1, h2⟩ := h
  exact ⟨d, Dp.mono s h1, h2⟩
theorem gn_le (h : Gn K m S v) (l : m ≤ n) : Gn K n S v := by
  obtain ⟨d, h1, h2⟩ := h
  exact ⟨d, h1, sz_le l h2⟩
theorem Gd.mono (h : Gd K S v) (s : Same S S') : Gd K S' v := ⟨h.1.mono s, h.2⟩
theorem gn_non : Gn K n S .non := ⟨.none, .non, by cases n <;> rfl⟩
theorem gn_bl {b : Bool} : Gn K n S (.bl b) := ⟨.bool b, .bl b, by cases n <;> rfl⟩
theorem gn_int {i : Int} : Gn K n S (.int i) := ⟨.int i, .int i, by cases n <;> rfl⟩
theorem gn_str {z : Str} (h : PyData.strOk z = true) (l : z.length ≤ 1000) : Gn K n S (.str z) := ⟨.str z, .str z, szS h l⟩
theorem gn_all : ∀ {xs : List V}, (∀ v ∈ xs, Gn K n S v) → ∃ ds, DpAll K S xs ds ∧ ∀ d ∈ ds, Sz n d = true
  | [], _ => ⟨[], .nil, fun d h => by simp at h⟩
  | x :: r, h => by
    obtain ⟨d, h1, h2⟩ := h x (by simp)
    obtain ⟨ds, h3, h4⟩ := gn_all (xs := r) fun v hv => h v (by simp [hv])
    refine ⟨d :: ds, .cons h1 h3, fun e he => ?_⟩
    rcases List.mem_cons.mp he with rfl | he
    · exact h2
    · exact h4 e he
theorem gn_tup (k : S a = some (.tup xs)) (h : ∀ v ∈ xs, Gn K n S v) (l : xs.length ≤ 900) : Gn K (n + 1) S (.ref a) := by
  obtain ⟨ds, h1, h2⟩ := gn_all h
  exact ⟨.tuple ds, .tup (SqT.of k) h1, szT h2 (by rw [← dpa_len h1]; exact l)⟩
theorem gn_lst (k : S a = some (.lst xs)) (h : ∀ v ∈ xs, Gn K n S v) (l : xs.length ≤ 900) : Gn K (n + 1) S (.ref a) := by
  obtain ⟨ds, h1, h2⟩ := gn_all h
  exact ⟨.list ds, .lst (SqL.of k) h1, szT h2 (by rw [← dpa_len h1]; exact l)⟩
theorem gd_ref (h : Gn K 6 S (.ref a)) : Gd K S (.ref a) := ⟨h, fun t e => by cases e⟩
theorem cut_mem {lo hi : Option Int} (h : v ∈ cutV xs lo hi) : v ∈ xs := by
  unfold cutV at h
  exact List.mem_of_mem_drop (List.mem_of_mem_take h)
end
/-! ### a comprehension whose items are new things -/
theorem lc_gd {K : PySem.W.Frag} {p a : Addr} {xs : List V} {S H1 : Hp} {j : Nat} {tt : TT} {te : TE} {vs : List Nat} {σ : L2.St} {D : Addr} {Qd : Hp → Prop} (hx : S a = some (.lst xs)) (hlen : xs.length ≤ 1000) (P1 : Pool S H1 p)
    (hw : ∀ x, wipe ((wipe σ vs).set j (some x)) vs = wipe σ vs)
    (step : ∀ x S' H', x ∈ xs → Pool S' H' p → Gr p S H1 S' H' → ∀ (Q : V → Hp → Prop) (Qn : Hp → Prop), (∀ v S'' H'', Pool S'' H'' p → Gr p S' H' S'' H'' → Gd K S'' v → Q v H'') → tt ((wipe σ vs).set j (some x)) H' fun b H3 => if b = true then te ((wipe σ vs).set j (some x)) H3 Q else Qn H3)
    (hD : H1 D = none) (hd : ∀ S' H' ys, Pool S' H' p → Gr p S H1 S' H' → H' D = some (.lst ys) → (∀ v ∈ ys, Gd K S' v) → ys.length = xs.length → Qd H') :
    ∃ W : Nat → Nat → Hp → Prop, (∃ m, W 0 m (upd H1 D (.lst []))) ∧ ∀ i m H, W i m H →
      ((Itl K a).stop i H ∧ Qd H) ∨ ((Itl K a).go i H ∧ ∃ Nx : Hp → Prop, (∀ H', Nx H' → ∃ m', m' < m ∧ W (i + 1) m' H') ∧ ∀ x H', (Itl K a).yld i H x H' → gName j x (wipe σ vs) H' fun σ2 H2 => wipe σ2 vs = wipe σ vs ∧ tt σ2 H2 fun b H3 =>
        if b = true then te σ2 H3 fun y H4 => ∃ acc, H4 D = some (.lst acc) ∧ acc.length < sizeLine ∧ Nx (upd H4 D (.lst (acc ++ [y]))) else Nx H3) := by
  have nDp : D ≠ p := fun z => P1.has (by rw [← z]; exact hD)
  have sD : S D = none := P1.ss.free hD
  refine lc_list (K := K) (a := a) (xs := xs) (fun i H => ∃ S' ys, Pool S' H p ∧ Gr p S H1 S' H ∧ S' D = none ∧ H D = some (.lst ys) ∧ (∀ v ∈ ys, Gd K S' v) ∧ ys.length = i ∧ i ≤ xs.length) ⟨S, [], P1.put sD nDp, Gr.refl.put hD, sD, upd_same, fun v h => by simp at h, rfl, Nat.zero_le _⟩ ?_ ?_ ?_
  · rintro i H _ ⟨S', ys, P', g', _⟩
    exact SqL.of (P'.ss _ _ (g'.st _ _ hx))
  · rintro i x H hi ⟨S', ys, P', g', s', h', hy, hl, hil⟩
    have hi' : i < xs.length := (List.getElem?_eq_some_iff.mp hi).1
    refine ⟨hw x, step x S' H (List.mem_of_getElem? hi) P' g' _ _ fun v S'' H'' P'' g'' hv => ?_⟩
    obtain ⟨s2, h2⟩ := g''.loc nDp s' h'
    refine ⟨ys, h2, small1000 (by omega), S'', ys ++ [v], P''.put s2 nDp, (g'.trans g'').put hD, s2, upd_same, fun u hu => ?_, by rw [List.length_append, hl]; rfl, by omega⟩
    rcases List.mem_append.mp hu with hu | hu
    · exact (hy u hu).mono g''.st
    · rw [List.mem_singleton.mp hu]
      exact hv
  · rintro H ⟨S', ys, P', g', s', h', hy, hl, _⟩
    exact hd S' H ys P' g' h' hy hl
theorem nm_sok {z : Str} (h : nmB z = true) : PyData.strOk z = true := name_sok ((nmB_iff z).mp h)
theorem ne_same {K : PySem.W.Frag} {H : Hp} {x y : V} {d : PyData} {Q : VK} (hx : Dp K H x d) (hy : Dp K H y d) (hs : SeqAt.shaped d = true) (q : Q (.bl false) H) : rNeD K x y H Q := by
  refine ⟨d, d, hx, hy, hs, hs, ?_⟩
  rw [eqv_refl d (SeqAt.canLay_of_shaped hs)]
  exact q
end WW

set_option Elab.async false
set_option linter.all false
set_option maxRecDepth 100000
set_option maxHeartbeats 4000000
namespace WW
open PySem PySem.Spec PyProof.Rows L2
/-! ### a dict of one entry whose key is no text and no number -/
def rawO (a : Addr) (e : DictEntry) (ep : Nat) : HO := .ext fun h => (a == sysModules) = false ∧ h.DictRaw a #[e] ep
theorem rawO_new {P : Program} {w : World} {H : Hp} {h : Heap} {a : Addr} {e : DictEntry} {ep : Nat} (hs : (a == sysModules) = false) (R : h.DictRaw a #[e] ep) : ObjOk P w H h a (rawO a e ep) := by
  obtain ⟨o, ho, _⟩ := id R
  exact ⟨⟨hs, R⟩, ⟨o, ho⟩, fun _ _ p k => ⟨p.1, p.2.at k⟩⟩
section
variable {X : Cx} {pins : List (Addr × Obj)} {σ : L2.St} {H : Hp} {s : Shared}
theorem rawO_get {a : Addr} {e : DictEntry} {ep : Nat} (I : L2.Inv X pins σ H s) (ha : H a = some (rawO a e ep)) : (a == sysModules) = false ∧ s.heap.DictRaw a #[e] ep := (I.hok a _ ha).1
end
/-- a value's type: also such a dict -/
inductive TyY (K : PySem.W.Frag) (H : Hp) : V → Value → Prop
  | x {v : V} {t : Value} : TyX K H v t → TyY K H v t
  | raw {a : Addr} {e : DictEntry} {ep : Nat} : H a = some (rawO a e ep) → TyY K H (.ref a) (.type "dict")
section
variable {X : Cx} {pins : List (Addr × Obj)} {σ : L2.St} {H : Hp} {s : Shared}
theorem kit_ofY {x : V} {u t : Value} (I : L2.Inv X pins σ H s) (rx : RelV x u) (ty : TyY X.K H x t) : ∃ P : Heap → Prop, PySem.W.KitX X.K u t P ∧ P s.heap ∧ u ≠ .builtin "__main__.__loader__#opaque" := by
  cases ty with
  | x h => exact kit_of I rx h
  | @raw a e ep ha =>
    cases (show u = Value.ref a from rx)
    obtain ⟨_, o, ho, hx, _⟩ := rawO_get I ha
    exact ⟨_, PySem.W.kitx_dict, ⟨o, ho, hx.1⟩, fun z => nomatch z⟩
end
def rIsiY (K : PySem.W.Frag) : List V → Hp → VK → Prop := fun xs H Q => ∃ (x c : V) (t u : Value) (b : Bool), xs = [x, c] ∧ ClsV c u ∧ TyY K H x t ∧ PySem.W.kitOne K t u = some b ∧ Q (.bl b) H
def rIsiTY (K : PySem.W.Frag) : List V → Hp → VK → Prop := fun xs H Q => ∃ (x : V) (tp : Addr) (cs : List V) (t : Value) (us : List Value) (b : Bool), xs = [x, .ref tp] ∧ H tp = some (.tup cs) ∧ Paired ClsV cs us ∧ TyY K H x t ∧ PySem.W.kitAny K t us = some b ∧ Q (.bl b) H
section
variable {X : Cx}
theorem call_isiY : CallR X (.builtin "isinstance") (rIsiY X.K) := by
  intro pins s σ H xs us Q I r h
  obtain ⟨x, c, t, u, b, rfl, k, ty, e, q⟩ := h
  obtain ⟨u1, u2, rfl, r1, r2⟩ := vals2 r
  have e2 := k.eq r2
  subst e2
  obtain ⟨P, Z, p, hx⟩ := kit_ofY I r1 ty
  exact PySem.W.kia_one Z I.kIn p e hx fun tk => ⟨.bl b, H, I.tok tk, rfl, q⟩
theorem call_isiTY : CallR X (.builtin "isinstance") (rIsiTY X.K) := by
  intro pins s σ H xs us Q I r h
  obtain ⟨x, tp, cs, t, ws, b, rfl, hT, k, ty, e, q⟩ := h
  obtain ⟨u1, u2, rfl, r1, r2⟩ := vals2 r
  cases (show u2 = Value.ref tp from r2)
  obtain ⟨P, Z, p, hx⟩ := kit_ofY I r1 ty
  obtain ⟨_, its, rv, o, h1, h2, n, h3⟩ := (show ObjOk X.prog X.w H s.heap tp (.tup cs) from I.hok tp _ hT)
  have e3 := ClsV.all k rv
  subst e3
  obtain ⟨oc, od, dt, sl⟩ := o
  simp only at h2 h3
  subst h2 h3
  exact PySem.W.kia_tup Z I.kIn p h1 e hx fun tk => ⟨.bl b, H, I.tok tk, rfl, q⟩
/-- len of a dict -/
theorem cr_lenDR : CallR X (.builtin "len") (fun xs H Q => ∃ (a : Addr) (n : Nat), xs = [V.ref a] ∧ ((∃ kvs, H a = some (.dK kvs) ∧ n = kvs.length) ∨ (∃ e ep, H a = some (rawO a e ep) ∧ n = 1)) ∧ Q (.int (n : Int)) H) := by
  intro pins s σ H xs us Q I r h
  obtain ⟨a, n, rfl, hh, q⟩ := h
  rcases hh with ⟨kvs, ha, rfl⟩ | ⟨e, ep, ha, rfl⟩
  · exact call_lenD pins s σ H _ us Q I r ⟨a, kvs, rfl, ha, q⟩
  · rw [Vals.ref1 r]
    obtain ⟨hs, R⟩ := rawO_get I ha
    refine PyProof.Rows.call_len_slot (n := 1) R.typeIs PySem.F.slot_dict_len (fun Q' hq => call_len_raw hs R hq) (by omega) (by omega) ?_
    exact ⟨.int 1, H, I.tok _, ⟨_, rfl⟩, q⟩
/-- d.copy() -/
theorem mt_copyR : MtR X "dict.copy" (fun x xs H Q => ∃ (a : Addr) (e : DictEntry) (ep : Nat), x = .ref a ∧ xs = [] ∧ H a = some (rawO a e ep) ∧ (e.key = .none ∨ ∃ t ys, e.key = .ref t ∧ H t = some (.tup ys)) ∧ ∀ p, H p = none → Q (.ref p) (upd H p (rawO p e 0))) := by
  intro pins s σ H x xs v us Q I rx rs h
  obtain ⟨a, e, ep, rfl, rfl, ha, hk, q⟩ := h
  cases rs
  obtain rfl : v = Value.ref a := rx
  obtain ⟨hs, R⟩ := rawO_get I ha
  have hn := I.hok.fresh (Nat.le_refl s.heap.objs.size)
  refine call_copy_raw hs R (by show 1 ≤ sizeLine; decide) (fun x hx => ?_) fun h' R' k => ⟨.ref s.heap.objs.size, _, I.laid (a := s.heap.objs.size) (o := rawO s.heap.objs.size e 0) (t' := s.toks) k (Nat.le_refl _) (rawO_new (beq_eq_false_iff_ne.mpr (Ne.symm (Nat.ne_of_lt I.big))) R'), rfl, q _ hn⟩
  have hx : x = e := by simpa using hx
  subst hx
  rcases hk with hk | ⟨t, ys, hk, ht⟩
  · exact .inl (by rw [hk]; rfl)
  · obtain ⟨_, _, _, o, h1, h2, _⟩ := (show ObjOk X.prog X.w H s.heap t (.tup ys) from I.hok t _ ht)
    exact .inr ⟨t, hk, ⟨o, h1, h2⟩, by simp⟩
end
/-! ### walked -/
def Itz (d : Addr) (od : Obj) (e : DictEntry) (ep : Nat) (k : V) : It :=
  ⟨fun i H => H d = some (.frz od (rawO d e ep)) ∧ i < 1, fun i H x H' => H' = H ∧ x = k, fun i H => H d = some (.frz od (rawO d e ep)) ∧ 1 ≤ i⟩
theorem frzR {X : Cx} {pins : List (Addr × Obj)} {σ : L2.St} {H : Hp} {s : Shared} {d : Addr} {od : Obj} {e : DictEntry} {ep : Nat} (I : L2.Inv X pins σ H s) (hd : H d = some (.frz od (rawO d e ep))) : s.heap.get? d = some od ∧ (d == sysModules) = false ∧ od.ExactDict ∧ od.data = .dict #[e] ep := by
  have h := I.hok d _ hd
  obtain ⟨h1, ⟨h2, o, h3, h4, h5⟩, _⟩ := h
  rw [h1] at h3
  cases h3
  exact ⟨h1, h2, h4, h5⟩
theorem turn_raw {P : Program} {w : World} {K : PySem.W.Frag} {tg : Expr} {d : Addr} {od : Obj} {e : DictEntry} {ep : Nat} {k : V} (it : Addr) (rk : RelV k e.key) : Turn P w K tg (Itz d od e ep k) [it] it (fun i h => h.IsKeyIter it d i 1 ep) where
  mem := by simp
  obj := fun i h st b hb => by
    have e : b = it := by simpa using hb
    subst e
    obtain ⟨oi, e, c, dd⟩ := st
    exact ⟨oi, e, fun v z => by rw [dd] at z; cases z⟩
  keep := fun i h h' st k => st.at fun oi e => k it (by simp) oi e
  item := by
    intro X hP hw hK hc i pins s σ H E I hf st hg
    subst hP hw hK
    obtain ⟨hd, hi⟩ := hg
    obtain ⟨f0, f1, f2, f3, f4, f5⟩ := hf it (by simp)
    obtain ⟨hgd, hs, hx, hdt⟩ := frzR I hd
    have hi0 : i = 0 := by omega
    subst hi0
    refine next_key_item st hgd hdt rfl rfl fun h' st' sb => ?_
    have I1 : Inv X pins σ H { s with heap := h' } := I.turned (t' := s.toks) (fun b ob hb e => (sb.2 b hb).trans e) f0 f1 f3 f4 f5
    obtain ⟨oi, e2, c, dd⟩ := id st'
    exact ⟨e.key, rfl, go_of (s := { s with heap := h' }) e2 c dd (by decide) ⟨k, H, I1, rk, ⟨rfl, rfl⟩, st', fun b hb => (hf b hb).1⟩⟩
  done := by
    intro X hP hw hK hc i pins s σ H E I hf st hg
    subst hP hw hK
    obtain ⟨hd, hi⟩ := hg
    obtain ⟨f0, f1, f2, f3, f4, f5⟩ := hf it (by simp)
    obtain ⟨hgd, hs, hx, hdt⟩ := frzR I hd
    exact next_key_end (I.ok.hd hc) st hgd hdt rfl hi fun h' eb => ⟨rfl, I.turned (t' := s.toks) (fun b ob hb e => eb b ob hb e) f0 f1 f3 f4 f5⟩
  self := fun A i s Q E st h => wpAny_pyIter_keyiter st h
def iKeysR (td : TE) : TI := fun σ H R => td σ H fun x H1 => ∃ d o, x = .ref d ∧ ((∃ kvs, H1 d = some (.frz o (.dK kvs)) ∧ R (Itk d o kvs) H1) ∨ ∃ e ep k, H1 d = some (.frz o (rawO d e ep)) ∧ RelV k e.key ∧ R (Itz d o e ep k) H1)
theorem pi_keysR {X : Cx} {tg e : Expr} {td : TE} (he : PE X e td) : PI X tg e (iKeysR td) := by
  refine ⟨fun pins s σ H R I h => ?_⟩
  refine thn (he.run pins s σ H _ I h) fun u s1 ⟨x, H1, I1, rx, d, o, ex, q⟩ => ?_
  subst ex
  obtain rfl : u = Value.ref d := rx
  rcases q with ⟨kvs, hd, q⟩ | ⟨e, ep, k, hd, rk, q⟩
  · obtain ⟨hs, hgd, hx, es, ep, vs, hdt, hsz, kv, hm⟩ := I1.frzK hd
    refine iter_keys hs hgd hx hdt (pi_one (tk := s1.toks) I1 _ (turn_keys _ hdt) ⟨_, Heap.get?_push_size _ rfl, rfl, ?_⟩ q)
    rw [hsz] <;> rfl
  · obtain ⟨hgd, hs, hx, hdt⟩ := frzR I1 hd
    exact iter_keys hs hgd hx hdt (pi_one (tk := s1.toks) I1 _ (turn_raw _ rk) ⟨_, Heap.get?_push_size _ rfl, rfl, rfl⟩ q)
/-! ### == of two such dicts with one entry -/
section
variable {prog : Program} {w : World} {A : Around} {E : Value → Shared → Prop} {s : Shared}
theorem find1 {d : Addr} {o : Obj} {e : DictEntry} {ep : Nat} {Q : Option Nat → Shared → Prop} (ho : s.heap.get? d = some o) (hd : o.data = .dict #[e] ep) (hk : ∃ t, e.key = .ref t) (h : Q (some 0) s) :
    wpAny (model prog w) A (dictFind d e.key e.hash) Q E s := by
  obtain ⟨t, hk⟩ := hk
  unfold dictFind
  refine wpAny_holding (wpAny_bind (wpAny_dictEntries ho hd ?_))
  rw [hk]
  have hp : placesWithHash (#[e] : Array DictEntry).size (fun i => (#[e] : Array DictEntry)[i]?.map (·.hash)) e.hash = [0] := by
    unfold placesWithHash
    rw [show (#[e] : Array DictEntry).size = 1 from rfl, show List.range 1 = [0] from rfl]
    simp
  have hf : List.filterMap (fun i => Option.map (fun x => x.key) (#[e] : Array DictEntry)[i]?) [0] = [Value.ref t] := by simp [hk]
  simp only [hp, hf]
  rw [if_neg (by simp [carriedByValue])]
  rw [if_neg (by simp)]
  rw [if_pos (by simp)]
  refine wpAny_bind (wpAny_pure ?_)
  rw [if_neg (by simp)]
  refine wpAny_bind ?_
  rw [List.forIn_cons]
  simp only [show (#[e] : Array DictEntry)[0]? = some e from rfl, beq_self_eq_true, if_true]
  refine wpAny_bind (wpAny_bind (wpAny_dictEpoch ho hd (wpAny_bind ?_)))
  rw [hk]
  refine (SeqAt.EqAt.same _ : SeqAt.EqAt A s (.ref t) (.ref t) true) prog w E _ ?_
  refine wpAny_bind (wpAny_dictEpoch ho hd ?_)
  rw [if_neg (by simp)]
  simp only [if_true, Option.isSome_none, Bool.false_eq_true, if_false]
  refine wpAny_bind (wpAny_rule ?_)
  rw [if_pos (by show 1 < 2; decide)]
  exact wpAny_pure (wpAny_pure (wpAny_pure h))
theorem find1N {d : Addr} {o : Obj} {e : DictEntry} {ep : Nat} {Q : Option Nat → Shared → Prop} (ho : s.heap.get? d = some o) (hd : o.data = .dict #[e] ep) (hk : e.key = .none) (h : Q (some 0) s) :
    wpAny (model prog w) A (dictFind d e.key e.hash) Q E s := by
  unfold dictFind
  refine wpAny_holding (wpAny_bind (wpAny_dictEntries ho hd ?_))
  rw [hk]
  have hp : placesWithHash (#[e] : Array DictEntry).size (fun i => (#[e] : Array DictEntry)[i]?.map (·.hash)) e.hash = [0] := by
    unfold placesWithHash
    rw [show (#[e] : Array DictEntry).size = 1 from rfl, show List.range 1 = [0] from rfl]
    simp
  have hf : List.filterMap (fun i => Option.map (fun x => x.key) (#[e] : Array DictEntry)[i]?) [0] = [Value.none] := by simp [hk]
  simp only [hp, hf]
  rw [if_pos (by simp [carriedByValue])]
  unfold dictWalkPlain
  refine wpAny_bind ?_
  rw [List.forIn_cons]
  simp only [show (#[e] : Array DictEntry)[0]? = some e from rfl, beq_self_eq_true, if_true]
  refine wpAny_bind (wpAny_bind (wpAny_dictEpoch ho hd (wpAny_bind ?_)))
  rw [hk]
  refine (SeqAt.EqAt.same _ : SeqAt.EqAt A s .none .none true) prog w E _ ?_
  refine wpAny_bind (wpAny_dictEpoch ho hd ?_)
  rw [if_neg (by simp)]
  simp only [if_true]
  refine wpAny_bind (wpAny_rule ?_)
  exact wpAny_pure (wpAny_pure (wpAny_pure h))
theorem same1 {nm : String} {a b : Addr} {oa ob : Obj} {e : DictEntry} {ep ep' : Nat} {Q : Bool → Shared → Prop} (ha : (a == sysModules) = false) (hb : (b == sysModules) = false) (hoa : s.heap.get? a = some oa) (hob : s.heap.get? b = some ob)
    (hda : oa.data = .dict #[e] ep) (hdb : ob.data = .dict #[e] ep') (hk : e.key = .none ∨ ∃ t, e.key = .ref t) (h : Q true s) :
    wpAny (model prog w) A (Builtin.Dict.samePairs nm a b) Q E s := by
  unfold Builtin.Dict.samePairs Builtin.Dict.showsAll
  rw [if_neg (show ¬ (a == sysModules) = true by rw [ha]; exact Bool.false_ne_true), if_neg (show ¬ (b == sysModules) = true by rw [hb]; exact Bool.false_ne_true)]
  refine wpAny_bind (wpAny_pure (wpAny_bind (wpAny_pure ?_)))
  refine wpAny_bind (wpAny_dictEntries hoa hda ?_)
  dsimp only
  refine wpAny_bind (wpAny_dictEntries hob hdb ?_)
  rw [if_neg (by simp)]
  refine wpAny_bind (wpAny_dictEpoch hoa hda ?_)
  refine wpAny_bind ?_
  rw [Std.Legacy.Range.forIn_eq_forIn_range']
  simp only [Std.Legacy.Range.size, Nat.sub_zero, Nat.add_sub_cancel, Nat.div_one]
  show wpAny _ _ (forIn (List.range' 0 1) _ _) _ _ _
  rw [show List.range' 0 1 = [0] from rfl, List.forIn_cons]
  refine wpAny_bind (wpAny_bind (wpAny_dictEntries hoa hda ?_))
  simp only [show (#[e] : Array DictEntry)[0]? = some e from rfl]
  have found : ∀ {Q' : Option Nat → Shared → Prop}, Q' (some 0) s → wpAny (model prog w) A (dictFind b e.key e.hash) Q' E s := fun {Q'} q => by
    rcases hk with hk | hk
    · exact find1N hob hdb hk q
    · exact find1 hob hdb hk q
  refine wpAny_bind (wpAny_holding (wpAny_bind (found ?_)))
  refine wpAny_bind (wpAny_dictEntries hob hdb ?_)
  simp only [show (#[e] : Array DictEntry)[0]? = some e from rfl]
  refine wpAny_holding ((SeqAt.EqAt.same _ : SeqAt.EqAt A s e.val e.val true) prog w E _ ?_)
  show wpAny _ _ (if (!true) = true then _ else _) _ _ _
  rw [if_neg (by decide)]
  refine wpAny_bind (wpAny_dictEpoch hoa hda ?_)
  rw [if_neg (by simp)]
  refine wpAny_pure ?_
  show wpAny _ _ (forIn [] _ _) _ _ _
  rw [List.forIn_nil]
  exact wpAny_pure (wpAny_pure h)
theorem rc_raw {a b : Addr} {e : DictEntry} {ep ep' : Nat} {Q : Value → Shared → Prop} (ha : (a == sysModules) = false) (hb : (b == sysModules) = false) (Ra : s.heap.DictRaw a #[e] ep) (Rb : s.heap.DictRaw b #[e] ep') (hk : e.key = .none ∨ ∃ t, e.key = .ref t) (hu : A.units < cLine) (h : Q (.bool true) s) :
    wpAny (model prog w) A (compareOp .Eq (.ref a) (.ref b)) Q E s := by
  obtain ⟨oa, hoa, _, hda⟩ := id Ra
  obtain ⟨ob, hob, _, hdb⟩ := id Rb
  refine wpAny_richCompare_same_room (op := .Eq) Ra.typeIs Rb.typeIs PySem.F.slot_dict_eq (wpAny_call_entry PySem.F.slot_dict_eq Ra.typeIs PySem.F.entry_dict_eq ?_ (PySem.F.args_dict_eq_2 _ _)) hu
  show wpAny _ _ (Builtin.Dict.dictSlotArgs "__eq__" ⟨[.ref a, .ref b], []⟩ >>= _) _ _ s
  refine wpAny_bind ?_
  unfold Builtin.Dict.dictSlotArgs
  refine wpAny_bind (wpAny_notOrdered_dict Ra.typeIs ?_)
  show wpAny _ _ (pure (Value.ref a, Value.ref b)) _ _ s
  refine wpAny_pure ?_
  refine wpAny_bind (wpAny_isInstance (T := "dict") Rb.typeIs PySem.F.sub_dict_dict ?_)
  simp only [Bool.not_true, Bool.false_eq_true, if_false]
  refine wpAny_bind (wpAny_pure (wpAny_bind (wpAny_pure ?_)))
  refine wpAny_bind (same1 ha hb hoa hob hda hdb hk ?_)
  refine wpAny_pure ⟨_, rfl, ?_, ?_⟩
  · exact fun x => nomatch x
  · simpa using h
end
/-- == in alike: data, dicts of texts, dicts of one entry -/
def rEqR : R2 := fun x y H Q => ∃ (a b : Addr) (e : DictEntry) (ep ep' : Nat), x = .ref a ∧ y = .ref b ∧ H a = some (rawO a e ep) ∧ H b = some (rawO b e ep') ∧ (e.key = .none ∨ ∃ t, e.key = .ref t) ∧ Q (.bl true) H
theorem op_eqR {X : Cx} (hu : X.A.units < cLine) : OpR X (compareOp .Eq) rEqR := by
  intro pins s σ H x y v u Q I rx ry h
  obtain ⟨a, b, e, ep, ep', rfl, rfl, ea, eb, hk, q⟩ := h
  obtain rfl : v = Value.ref a := rx
  obtain rfl : u = Value.ref b := ry
  obtain ⟨ha, Ra⟩ := rawO_get I ea
  obtain ⟨hb, Rb⟩ := rawO_get I eb
  exact rc_raw ha hb Ra Rb hk hu ⟨.bl true, H, I, rfl, q⟩
/-! ### the displays {None: v}, {(x,): v} -/
section
variable {X : Cx} {pos : Pos} {keys : List (Option Expr)} {values : List Expr} {trs : List (TE × TE)}
def tOddN (trs : List (TE × TE)) : TE := fun σ H Q => ∀ p, H p = none → tPairs trs σ (upd H p (.dK [])) fun ps H2 => H2 p = some (.dK []) ∧ ∃ z : Str, ps = [(V.non, V.str z)] ∧ ∀ (e : DictEntry) (ep : Nat), e.key = .none → RelV (.str z) e.val → Q (.ref p) (upd H2 p (rawO p e ep))
theorem pe_oddN (h : PPs X pos keys values trs) (hall : keys.all (·.isSome) = true) (hl : keys.length = values.length) (h0 : keys ≠ []) (h15 : keys.length ≤ 15) : PE X (.Dict keys values pos) (tOddN trs) := by
  refine ⟨fun pins s σ H Q I q => ?_⟩
  have hn := I.hok.fresh (Nat.le_refl s.heap.objs.size)
  have I1 := I.laid (a := s.heap.objs.size) (o := .dK []) (h' := s.heap.push { cls := .type "dict", data := .dict #[] }) (t' := s.toks) (fun _ _ q => Heap.get?_push_of_some _ q) (Nat.le_refl _) (dk_empty s.heap I.big)
  refine wpAny_Dict_walk (knd := leafKind X.prog X.w) hall hl h0 h15 (thn (h.run pins _ σ _ _ I1 (q _ hn)) fun ws s2 ⟨ps, H2, I2, rel, e, z, ep, q2⟩ => ?_)
  subst ep
  cases rel with
  | @cons _ pr _ _ r1 r2 =>
    cases r2
    obtain ⟨u1, u2⟩ := pr
    obtain ⟨ru1, ru2⟩ := r1
    obtain rfl : u1 = Value.none := ru1
    obtain ⟨z0, hd, vs0, r0, dd⟩ := dk_of I2.hok e
    cases r0
    have dd0 : s2.heap.DictOf (leafKind X.prog X.w) s.heap.objs.size [] := by
      obtain ⟨o, es, ep, h1, h2, h3, h4, h5, h6⟩ := dd
      have hz : es.size = 0 := by
        have := h5.length
        rw [Array.length_toList] at this
        exact this
      have hes : es = #[] := Array.eq_empty_of_size_eq_zero hz
      subst hes
      exact ⟨o, #[], ep, h1, h2, h3, fun e he => by simp at he, .nil, List.nodup_nil⟩
    refine ⟨[(Leaf.none, u2)], ⟨rfl, rfl, trivial⟩, dd0, fun h' dd' hs => ?_⟩
    obtain ⟨o, es, ep, h1, h2, h3, h4, h5, h6⟩ := dd'
    have h5 : Pairs (leafKind X.prog X.w) es.toList [(Leaf.none, u2)] := h5
    obtain ⟨e', he'⟩ : ∃ e', es = #[e'] := by
      have hz : es.size = 1 := by
        have := h5.length
        rw [Array.length_toList] at this
        exact this
      exact Array.size_eq_one_iff.mp hz
    subst he'
    obtain ⟨hkey, hval⟩ := h5.get? (i := 0) (e := e') (k := Leaf.none) (v := u2) rfl rfl
    have ek : e'.key = Value.none := by
      revert hkey
      cases e'.key <;> intro z <;> first | rfl | cases z
    refine ⟨.ref s.heap.objs.size, _, d_write I2 (by rw [e]; exact True.intro) hs ⟨o, h1⟩ (rawO_new (ep := ep) (e := e') hd ⟨o, h1, h2, h3⟩), rfl, q2 e' ep ek (by rw [hval]; exact ru2)⟩
theorem Dict_pairsHx {prog : Program} {w : World} {A : Around} {E : Value → Shared → Prop} {s : Shared} {K : Type} [DecidableEq K] {knd : HeapKind prog w K} {env : Env} {keys : List (Option Expr)} {values : List Expr} {pos : Pos} {pairs : List (Sem Value × Sem Value)} {Q : Value → Shared → Prop} (hu : knd.room A)
    (hshape : (evalEachOpt keys env).zip ((evalEach values env).map fun v => do let x ← v; standAt pos; pure x) = pairs.map fun p => (some p.1, p.2)) (h0 : pairs ≠ []) (hlen : pairs.length ≤ 15)
    (h : wpAny (model prog w) A (evalPairs pairs) (fun vs s₁ => ∃ ps, CarriesH knd s₁.heap vs ps ∧ s₁.heap.DictOfH knd s.heap.objs.size [] ∧
      ∀ h' tk, h'.DictOfH knd s.heap.objs.size (storedAllH [] ps) → Heap.SameBut s.heap.objs.size s₁.heap h' → Q (.ref s.heap.objs.size) { s₁ with heap := h', toks := tk }) E
      { s with heap := s.heap.push { cls := .type "dict", data := .dict #[] } }) :
    wpAny (model prog w) A (eval (.Dict keys values pos) env) Q E s := by
  rw [arm_eval_Dict, hshape, dictDisplay_pairs pairs h0 (by omega)]
  exact wpAny_bind (wpAny_standAt (wpAny_bind (wpAny_subDictH (knd := knd) (Q := fun d s' => wpAny (model prog w) A (pure (Value.ref d)) Q E s') hu hlen
    (wpAny_mono h (fun vs s₁ h₁ => by obtain ⟨ps, hc, hm, hq⟩ := h₁; exact ⟨ps, hc, hm, fun h' tk a b => wpAny_pure (hq h' tk a b)⟩) fun _ _ e => e))))
def tOddT (trs : List (TE × TE)) : TE := fun σ H Q => ∀ p, H p = none → tPairs trs σ (upd H p (.dK [])) fun ps H2 => H2 p = some (.dK []) ∧ ∃ (t : Addr) (x z : Str), ps = [(V.ref t, V.str z)] ∧ H2 t = some (.tup [.str x]) ∧ ∀ (e : DictEntry) (ep : Nat), e.key = .ref t → RelV (.str z) e.val → Q (.ref p) (upd H2 p (rawO p e ep))
theorem pe_oddT (hu : X.A.units < cLine) (h : PPs X pos keys values trs) (hall : keys.all (·.isSome) = true) (hl : keys.length = values.length) (h0 : keys ≠ []) (h15 : keys.length ≤ 15) : PE X (.Dict keys values pos) (tOddT trs) := by
  refine ⟨fun pins s σ H Q I q => ?_⟩
  have hn := I.hok.fresh (Nat.le_refl s.heap.objs.size)
  have I1 := I.laid (a := s.heap.objs.size) (o := .dK []) (h' := s.heap.push { cls := .type "dict", data := .dict #[] }) (t' := s.toks) (fun _ _ q => Heap.get?_push_of_some _ q) (Nat.le_refl _) (dk_empty s.heap I.big)
  have hpl : (pairTrees keys values X.env pos).length = keys.length := pairTrees_length keys values X.env pos hall hl
  refine Dict_pairsHx (knd := tupleKind (mixKind X.prog X.w)) (pairs := pairTrees keys values X.env pos) hu (zip_pairTrees keys values X.env pos hall hl) (fun z => ?_) (by rw [hpl]; exact h15) (thn (h.run pins _ σ _ _ I1 (q _ hn)) fun ws s2 ⟨ps, H2, I2, rel, e, t, x, z, ep, ht, q2⟩ => ?_)
  · rw [z] at hpl
    exact h0 (List.length_eq_zero_iff.mp hpl.symm)
  subst ep
  cases rel with
  | @cons _ pr _ _ r1 r2 =>
    cases r2
    obtain ⟨u1, u2⟩ := pr
    obtain ⟨ru1, ru2⟩ := r1
    obtain rfl : u1 = Value.ref t := ru1
    obtain ⟨z0, hd, vs0, r0, dd⟩ := dk_of I2.hok e
    cases r0
    have dd0 : s2.heap.DictOfH (tupleKind (mixKind X.prog X.w)) s.heap.objs.size [] := by
      obtain ⟨o, es, ep, h1, h2, h3, h4, h5, h6⟩ := dd
      have hz : es.size = 0 := by
        have := h5.length
        rw [Array.length_toList] at this
        exact this
      have hes : es = #[] := Array.eq_empty_of_size_eq_zero hz
      subst hes
      exact ⟨o, #[], ep, h1, h2, h3, rfl, fun x hx => by simp at hx, List.nodup_nil⟩
    refine ⟨[([Sum.inr x], t, u2)], ⟨rfl, rfl, key_of (ks := [Sum.inr x]) I2.hok ht, trivial⟩, dd0, fun h' tk dd' hs => ?_⟩
    obtain ⟨o, es, ep, h1, h2, h3, h4, _, _⟩ := dd'
    have h4 : es.toList = [entryOfKey (tupleKind (mixKind X.prog X.w)) ([Sum.inr x], t, u2)] := h4
    obtain ⟨e', he'⟩ : ∃ e', es = #[e'] := by
      have hz : es.size = 1 := by
        have := congrArg List.length h4
        rw [Array.length_toList] at this
        exact this
      exact Array.size_eq_one_iff.mp hz
    subst he'
    have ee : e' = entryOfKey (tupleKind (mixKind X.prog X.w)) ([Sum.inr x], t, u2) := by simpa using h4
    have J := d_write (t' := tk) I2 (by rw [e]; exact True.intro) hs ⟨o, h1⟩ (rawO_new (ep := ep) (e := e') hd ⟨o, h1, h2, h3⟩)
    exact ⟨.ref s.heap.objs.size, _, J, rfl, q2 e' ep (by rw [ee]; rfl) (by rw [ee]; exact ru2)⟩
end
end WW

set_option Elab.async false
set_option linter.all false
set_option maxRecDepth 100000
set_option maxHeartbeats 4000000
namespace WW
open PySem PySem.Spec PyProof.Rows L2
section
variable {X : Cx}
/-- set(row of texts), a list or a tuple -/
theorem cr_setOfR (hc : X.calm = true) : CallR X (.type "set") (fun xs H Q => ∃ (l : Addr) (zs : List Str), xs = [.ref l] ∧ (SqL X.K H l (zs.map V.str) ∨ SqT X.K H l (zs.map V.str)) ∧ zs.length ≤ 100 ∧ ∀ a, H a = none → Q (.ref a) (upd H a (SetKo X.prog X.w a ((insAll zs).map Sum.inr)))) := by
  intro pins s σ H xs us Q I r h
  obtain ⟨l, zs, rfl, hl, hz, q⟩ := h
  rcases hl with hl | hl
  · exact cr_setOfS hc pins s σ H _ us Q I r ⟨l, zs, rfl, hl, hz, q⟩
  · exact cr_setOfT hc pins s σ H _ us Q I r ⟨l, zs, rfl, hl, by omega, q⟩
/-- len(set of texts) -/
theorem cr_lenSt : CallR X (.builtin "len") (fun xs H Q => ∃ (a : Addr) (ks : List Key), xs = [.ref a] ∧ H a = some (SetKo X.prog X.w a ks) ∧ ks.length ≤ 1000 ∧ Q (.int (ks.length : Int)) H) := by
  intro pins s σ H xs us Q I r h
  obtain ⟨a, ks, rfl, ha, hl, q⟩ := h
  rw [Vals.ref1 r]
  have G := setKo_get I ha
  obtain ⟨o, es, ep, t, ho, hex, hd, T⟩ := id G
  have hn := T.size
  obtain ⟨o', es', ep', t', ho', hex', hd', _, _, _, hf, _⟩ := G.setOf
  rw [ho] at ho'
  cases ho'
  rw [hd] at hd'
  cases hd'
  refine call_len_set ho hex hd hf (by omega) ⟨.int ks.length, H, I.tok _, ⟨_, by rw [hn]⟩, q⟩
/-- for x in row, a list or a tuple -/
def iSeq (K : PySem.W.Frag) (tl : TE) : TI := fun σ H R => tl σ H fun x H1 => ∃ a, x = .ref a ∧ (((∃ xs, SqL K H1 a xs) ∧ R (Itl K a) H1) ∨ ((∃ xs, SqT K H1 a xs) ∧ R (Itt K a) H1))
theorem pi_seq {tg l : Expr} {tl : TE} (hl : PE X l tl) : PI X tg l (iSeq X.K tl) := by
  refine ⟨fun pins s σ H R I h => ?_⟩
  refine thn (hl.run pins s σ H _ I h) fun v s1 ⟨x, H1, I1, r1, q1⟩ => ?_
  obtain ⟨a, e, q⟩ := q1
  subst e
  cases r1
  rcases q with ⟨⟨xs, hq⟩, q⟩ | ⟨⟨xs, hq⟩, q⟩
  · obtain ⟨its, rv, p, hz⟩ := I1.list hq
    refine wpAny_pyIter_list p.isList ?_
    refine ⟨s1.heap.objs.size, [s1.heap.objs.size], _, _, H1, rfl, I1.kept (t' := s1.toks) fun b o e => Heap.get?_push_of_some _ e, turn_list a _, ⟨_, Heap.get?_push_size _ rfl, rfl, rfl⟩, fun b hb => ?_, q⟩
    have e : b = s1.heap.objs.size := by simpa using hb
    subst e
    exact I1.fpOk (Nat.le_refl _) (I1.hok.fresh (Nat.le_refl _))
  · obtain ⟨its, rv, p, hz⟩ := I1.tuple hq
    refine wpAny_pyIter_tuple (show s1.heap.IsTuple a its.toArray from p) ?_
    refine ⟨s1.heap.objs.size, [s1.heap.objs.size], _, _, H1, rfl, I1.kept (t' := s1.toks) fun b o e => Heap.get?_push_of_some _ e, turn_tuple a _, ⟨_, Heap.get?_push_size _ rfl, rfl, rfl⟩, fun b hb => ?_, q⟩
    have e : b = s1.heap.objs.size := by simpa using hb
    subst e
    exact I1.fpOk (Nat.le_refl _) (I1.hok.fresh (Nat.le_refl _))
/-- d.copy(), a dict of texts or one of one odd entry -/
def tCopyA (te : TE) : TE := fun σ H Q => te σ H fun x H1 => ∃ a, x = .ref a ∧ ((∃ kvs, H1 a = some (.dK kvs) ∧ ∀ p, H1 p = none → Q (.ref p) (upd H1 p (.dK kvs))) ∨
  (∃ e ep, H1 a = some (rawO a e ep) ∧ (e.key = .none ∨ ∃ t ys, e.key = .ref t ∧ H1 t = some (.tup ys)) ∧ ∀ p, H1 p = none → Q (.ref p) (upd H1 p (rawO p e 0))))
theorem pe_copyA {o : Expr} {te : TE} {apos cpos : Pos} (ho : PE X o te) (hbase : attributeBase o "copy" X.env (eval o X.env) = eval o X.env := by rfl) (hline : (apos.endLine == cpos.line) = true := by rfl) :
    PE X (.Call (.Attribute o "copy" apos) [] [] cpos) (tCopyA te) := by
  refine ⟨fun pins s σ H Q I h => ?_⟩
  refine wpAny_Call_method0_late hbase hline (thn (ho.run pins s σ H _ I h) fun v s1 ⟨x, H1, I1, r1, a, ex, q1⟩ => ?_)
  subst ex
  obtain rfl : v = Value.ref a := r1
  rcases q1 with ⟨kvs, ha, q⟩ | ⟨e, ep, ha, hk, q⟩
  · obtain ⟨h1, h2⟩ := tyV_is (T := "dict") (x := .ref a) I1 rfl (.inr (.inr (.inl ⟨rfl, .inl ⟨kvs, ha⟩⟩)))
    exact ⟨"dict", "dict.copy", PySem.F.plainAttrs_dict, PySem.F.slot_dict_copy, PySem.F.type_dict_copy, h1, h2, Calls.callWith_builtin rfl (PySem.evalArgs_none (mt_copyD pins s1 σ H1 (.ref a) [] (.ref a) [] Q I1 rfl .nil ⟨a, kvs, rfl, rfl, ha, q⟩))⟩
  · obtain ⟨hs, R⟩ := rawO_get I1 ha
    obtain ⟨o', ho', hx', _⟩ := id R
    exact ⟨"dict", "dict.copy", PySem.F.plainAttrs_dict, PySem.F.slot_dict_copy, PySem.F.type_dict_copy, R.typeIs, (fun b eb => by cases eb; exact ⟨o', ho', hx'.2.1⟩), Calls.callWith_builtin rfl (PySem.evalArgs_none (mt_copyR pins s1 σ H1 (.ref a) [] (.ref a) [] Q I1 rfl .nil ⟨a, e, ep, rfl, rfl, ha, hk, q⟩))⟩
end
/-! ### own == where the other one may be of another class -/
section
variable {X : Cx} {n : Nat} {C f : Addr} {fd : FuncData} {ps : List Str} {sp : Sp}
def rEqOD (K : PySem.W.Frag) (C : Addr) (sp : Sp) : R2 := fun x y H Q => ∃ a b D dx dy fs gs, x = .ref a ∧ y = .ref b ∧ H a = some (.ins C dx fs) ∧ H b = some (.ins D dy gs) ∧ PySem.W.notFirst K C (.ref D) = true ∧ sp [.ref a, .ref b] H Q E0
theorem op_eqOD (c : EqC X.K C f) (F : FnOk X.prog X.w X.K X.mg X.base CX0 n f fd ps sp) (hb : Binds X.K fd ps []) (hr : Room n X.A) : OpR X (compareOp .Eq) (rEqOD X.K C sp) := by
  intro pins s σ H x y v u Q I rx ry h
  obtain ⟨a, b, D, dx, dy, fs, gs, rfl, rfl, ha, hb', hnf, q⟩ := h
  cases rx
  cases ry
  obtain ⟨mA, J, _⟩ := ins_get I.hok ha
  obtain ⟨mB, J', _⟩ := ins_get I.hok hb'
  obtain ⟨od, J, _⟩ := J.look
  obtain ⟨od', J', _⟩ := J'.look
  obtain ⟨m, hF⟩ := I.fr
  show wpAny (model X.prog X.w) X.A (richCompare .Eq (.ref a) (.ref b)) _ _ _
  refine PySem.W.cmp_K (op := .Eq) (tb := .ref D) hr.units0 hF I.ok.mod.kin J J'.type hnf c.eq c.fn (wpAny_mono (run2 F hb I hr rfl q) (fun z s' hz => ?_) fun _ _ e => e)
  obtain ⟨z', H', I', rz, q'⟩ := id hz
  cases z' with
  | non => cases (show z = Value.none from rz); exact hz
  | bl c => cases (show z = Value.bool c from rz); exact hz
  | int i => obtain ⟨t, e⟩ := (show ∃ t, z = Value.int i t from rz); cases e; exact hz
  | str i => obtain ⟨t, e⟩ := (show ∃ t, z = Value.str i t from rz); cases e; exact hz
  | byt i => obtain ⟨t, e⟩ := (show ∃ t, z = Value.bytes i t from rz); cases e; exact hz
  | flt i => obtain ⟨t, e⟩ := (show ∃ t, z = Value.float i t from rz); cases e; exact hz
  | ref i => cases (show z = Value.ref i from rz); exact hz
  | ty i => cases (show z = Value.type i from rz); exact hz
end
theorem kit_dict {K : PySem.W.Frag} {n : String} (h : n ∈ kinds) : PySem.W.kitOne K (.type n) (.type "dict") = some (n == "dict") := by
  have : ∀ n ∈ kinds, kitB n "dict" = some (n == "dict") := by decide +kernel
  exact kit_ty (this n h)
end WW

set_option Elab.async false
set_option linter.all false
set_option maxRecDepth 100000
set_option maxHeartbeats 4000000
namespace WW
open PySem PySem.Spec PyProof.Rows L2
theorem hu0 {A : Around} {k : Nat} (hr : Room k A) : A.units < cLine := by
  have := hr.un
  omega
theorem hu1 {A : Around} {k : Nat} (hr : Room k A) : A.units + 1 < cLine := by
  have := hr.un
  omega
structure Cm (mg : Str → Option Value) : Prop where
  mw : ∃ t, mg "MOST_WORDS" = some (.int 10 t)
  mc : ∃ t, mg "MOST_COST" = some (.int 1000 t)
/-- what are_names is asked about -/
inductive AnQ (K : PySem.W.Frag) (H : Hp) : V → Bool → Prop
  | other {v : V} {n : String} : Kd K H v n → n ≠ "list" → n ≠ "tuple" → AnQ K H v false
  | row {a : Addr} {xs : List V} : (H a = some (.lst xs) ∨ H a = some (.tup xs)) → (∀ x ∈ xs, ∃ n, Kd K H x n) → xs.length ≤ 1000 → AnQ K H (.ref a) (xs.all isNm)
theorem AnQ.mono {K : PySem.W.Frag} {H H' : Hp} {v : V} {b : Bool} (s : Same H H') (h : AnQ K H v b) : AnQ K H' v b := by
  cases h with
  | other k n m => exact .other (k.mono s) n m
  | row h k l => exact .row (h.imp (s _ _) (s _ _)) (fun x hx => let ⟨n, z⟩ := k x hx; ⟨n, z.mono s⟩) l
theorem fm_bl (xs : List V) : xs.filterMap (fun v => some (V.bl (isNm v))) = (xs.map isNm).map V.bl := by
  rw [List.map_map]
  exact List.filterMap_eq_map (f := fun v => V.bl (isNm v)) ▸ rfl
def FlV (v : V) : Prop := v = .non ∨ ∃ z, v = .str z ∧ z.length ≤ sizeLine
theorem FlV.kd {K : PySem.W.Frag} {H : Hp} {v : V} (h : FlV v) : ∃ n, Kd K H v n := by
  rcases h with rfl | ⟨z, rfl, l⟩
  · exact ⟨_, kd_non K H⟩
  · exact ⟨_, kd_str K H l⟩
theorem kd_off {K : PySem.W.Frag} {H : Hp} {x : V} {n : String} {a : Addr} {o : HO} (hne : x ≠ .ref a) (h : Kd K H x n) : Kd K (upd H a o) x n := by
  refine ⟨?_, h.2⟩
  have off : ∀ {b : Addr} {u : HO}, x = .ref b → H b = some u → upd H a o b = some u := fun {b u} e hb => by
    rw [upd_ne (fun z => hne (by rw [e, z]))]
    exact hb
  have hx := h.1
  cases hx with
  | base b =>
    cases b with
    | non => exact .base .non
    | bl x => exact .base (.bl x)
    | int x => exact .base (.int x)
    | str x => exact .base (.str x)
    | flt x => exact .base (.flt x)
    | lst e => exact .base (.lst (off rfl e))
    | frz e => exact .base (.frz (off rfl e))
    | tup e => exact .base (.tup (off rfl e))
    | dK e => exact .base (.dK (off rfl e))
    | dT e => exact .base (.dT (off rfl e))
  | byt b => exact .byt b
  | set e => exact .set (off rfl e)
  | kList e c => exact .kList e c
  | kTuple e c => exact .kTuple e c
  | kDict e c => exact .kDict e c
  | fTuple e => exact .fTuple (off rfl e)
  | fDict e => exact .fDict (off rfl e)
/-- a comprehension over a walk of a locked dict -/
theorem lc_pureJ {J : It} {fz : HO} {d : Addr} {j : Nat} {tt : TT} {te : TE} {vs : List Nat} {σ : L2.St} {H1 : Hp} {D : Addr} {Qd : Hp → Prop} (xs : List V) (f : V → Option V) (hgo : ∀ i H, H d = some fz → i < xs.length → J.go i H) (hy : ∀ i H x H', J.yld i H x H' → i < xs.length → H' = H ∧ xs[i]? = some x) (hst : ∀ i H, H d = some fz → xs.length ≤ i → J.stop i H)
    (hd0 : H1 d = some fz) (hlen : xs.length ≤ 1000) (hw : ∀ x, wipe ((wipe σ vs).set j (some x)) vs = wipe σ vs)
    (step : ∀ y H, y ∈ xs → Same H1 H → ∀ Q : Option V → Hp → Prop, (∀ H', Same H H' → Q (f y) H') → tt ((wipe σ vs).set j (some y)) H fun b H3 => if b = true then te ((wipe σ vs).set j (some y)) H3 (fun y H4 => Q (some y) H4) else Q none H3)
    (hD : H1 D = none) (hd : ∀ H, Same H1 H → H D = some (.lst (xs.filterMap f)) → Qd H) :
    ∃ W : Nat → Nat → Hp → Prop, (∃ m, W 0 m (upd H1 D (.lst []))) ∧ ∀ i m H, W i m H →
      (J.stop i H ∧ Qd H) ∨ (J.go i H ∧ ∃ Nx : Hp → Prop, (∀ H', Nx H' → ∃ m', m' < m ∧ W (i + 1) m' H') ∧ ∀ y H', J.yld i H y H' → gName j y (wipe σ vs) H' fun σ2 H2 => wipe σ2 vs = wipe σ vs ∧ tt σ2 H2 fun b H3 =>
        if b = true then te σ2 H3 fun y H4 => ∃ acc, H4 D = some (.lst acc) ∧ acc.length < sizeLine ∧ Nx (upd H4 D (.lst (acc ++ [y]))) else Nx H3) := by
  refine ⟨fun i m H => m = xs.length - i ∧ i ≤ xs.length ∧ Same H1 H ∧ H D = some (.lst ((xs.take i).filterMap f)), ⟨_, rfl, Nat.zero_le _, same_upd hD, upd_same⟩, ?_⟩
  rintro i m H ⟨rfl, hi, hs, he⟩
  by_cases h : i < xs.length
  · refine .inr ⟨hgo i H (hs _ _ hd0) h, fun H => Same H1 H ∧ H D = some (.lst ((xs.take (i + 1)).filterMap f)), fun H' h' => ⟨_, by omega, rfl, by omega, h'⟩, ?_⟩
    intro y H' hyl
    obtain ⟨rfl, hx⟩ := hy i H y H' hyl h
    exact lc_step f xs hlen hw step hD i _ H' hx ⟨hs, he⟩
  · refine .inl ⟨hst i H (hs _ _ hd0) (by omega), hd H hs ?_⟩
    rw [he, List.take_of_length_le (by omega)]
def keyV : V → Option Key
  | .int i => some (.inl i)
  | .str z => some (.inr z)
  | _ => none
theorem keyV_kV (k : Key) : keyV (kV k) = some k := by cases k <;> rfl
def sgF (kvs : List (Key × V)) (x : V) : Option V := match keyV x with
  | some k => some (.bl (isNm x && ((valV kvs k).map isNm).getD false))
  | none => none
theorem sgF_at {kvs : List (Key × V)} (nd : (kvs.map (·.1)).Nodup) {p : Key × V} (h : p ∈ kvs) : sgF kvs (kV p.1) = some (.bl (isNm (kV p.1) && isNm p.2)) := by
  unfold sgF
  rw [keyV_kV]
  simp only [val_nodup nd p h]
  rfl
theorem sgF_all {kvs : List (Key × V)} (nd : (kvs.map (·.1)).Nodup) : (kvs.map fun p => kV p.1).filterMap (sgF kvs) = (kvs.map fun p => isNm (kV p.1) && isNm p.2).map V.bl := by
  have : ∀ l : List (Key × V), (∀ p ∈ l, p ∈ kvs) → (l.map fun p => kV p.1).filterMap (sgF kvs) = (l.map fun p => isNm (kV p.1) && isNm p.2).map V.bl := by
    intro l
    induction l with
    | nil => intro _; rfl
    | cons p r ih =>
      intro h
      rw [List.map_cons, List.filterMap_cons, sgF_at nd (h p (by simp)), ih fun q hq => h q (by simp [hq])]
      rfl
  exact this kvs fun p h => h
theorem same_lock {H H' : Hp} {a : Addr} {od : Obj} {u : HO} (ha : H a = some u) (s : Same (upd H a (.frz od u)) H') : Same H (upd H' a u) := fun b o hb => by
  by_cases e : b = a
  · rw [e, upd_same]
    rw [e, ha] at hb
    exact hb
  · rw [upd_ne e]
    exact s b o (by rw [upd_ne e]; exact hb)
/-- None, or a tuple -/
def OddK (H : Hp) (k : V) : Prop := k = .non ∨ ∃ t xs, k = .ref t ∧ H t = some (.tup xs)
theorem OddK.mono {H H' : Hp} {k : V} (s : Same H H') (h : OddK H k) : OddK H' k := h.imp id fun ⟨t, xs, e, z⟩ => ⟨t, xs, e, s _ _ z⟩
theorem OddK.kd {K : PySem.W.Frag} {H : Hp} {k : V} (h : OddK H k) : isNm k = false ∧ ∃ n, Kd K H k n := by
  rcases h with rfl | ⟨t, xs, rfl, ht⟩
  · exact ⟨rfl, _, kd_non K H⟩
  · exact ⟨rfl, _, kd_tup K ht⟩
theorem OddK.off {H : Hp} {k : V} {a : Addr} {o : HO} {e : DictEntry} {ep : Nat} (ha : H a = some (rawO a e ep)) (h : OddK H k) : OddK (upd H a o) k := h.imp id fun ⟨t, xs, e, z⟩ => ⟨t, xs, e, by
  rw [upd_ne (fun y => by rw [y, ha] at z; cases z)]
  exact z⟩
/-- what are_sights is asked about -/
inductive SgQ (K : PySem.W.Frag) (H : Hp) : V → Bool → Prop
  | other {v : V} {n : String} : Kd K H v n → n ≠ "dict" → SgQ K H v false
  | dk {a : Addr} {kvs : List (Key × V)} : H a = some (.dK kvs) → (∀ p ∈ kvs, FlV p.2) → (∀ p ∈ kvs, ∀ z, p.1 = .inr z → z.length ≤ sizeLine) → (kvs.map (·.1)).Nodup → kvs.length ≤ 1000 →
      SgQ K H (.ref a) (decide (1 ≤ kvs.length) && decide (kvs.length ≤ 10) && kvs.all fun p => isNm (kV p.1) && isNm p.2)
  | raw {a : Addr} {e : DictEntry} {ep : Nat} {k : V} : H a = some (rawO a e ep) → RelV k e.key → OddK H k → SgQ K H (.ref a) false
theorem SgQ.mono {K : PySem.W.Frag} {H H' : Hp} {v : V} {b : Bool} (s : Same H H') (h : SgQ K H v b) : SgQ K H' v b := by
  cases h with
  | other k n => exact .other (k.mono s) n
  | dk h k z n l => exact .dk (s _ _ h) k z n l
  | raw h r k => exact .raw (s _ _ h) r (k.mono s)
section
variable {P : Program} {w : World} {K : PySem.W.Frag} {mg : Str → Option Value} {base : Heap} {f fA fB fC fX fY CN CP CC : Addr} {fd fdA fdB fdC fdX fdY : FuncData}
abbrev sAre_names : Stmt := topS 6
abbrev nAre_names : List Str := ["thing", "item"]
theorem scAre_names : FnScope nAre_names ["thing"] (defScope sAre_names) := ⟨rfl, rfl, rfl, by decide +kernel, rfl, by decide +kernel, by decide +kernel⟩
def spAreN (K : PySem.W.Frag) : Sp := fun vs H Q _ => ∃ (x : V) (b : Bool), vs = [x] ∧ AnQ K H x b ∧ ∀ H', Same H H' → Q (.bl b) H'
theorem ok_are_names (D : Df K mg "are_names" sAre_names ["thing"] f fd) (DIs_row : Df K mg "is_row" sIs_row ["thing"] fA fdA) (GIs_row : FnOk P w K mg base CX0 1 fA fdA ["thing"] (spIsRow K)) (DIs_name : Df K mg "is_name" sIs_name ["thing"] fB fdB) (GIs_name : FnOk P w K mg base CX0 1 fB fdB ["thing"] (spIsName K)) (T : Bl mg) :
    FnOk P w K mg base CX0 2 f fd ["thing"] (spAreN K) := by
  refine D.fn.ok scAre_names (fun vs H Q E h => ?_) (fun cdv A outer s H vs Q E hr h => ?_)
  · obtain ⟨x, ds, rfl, _⟩ := h
    rfl
  · obtain ⟨x, b, rfl, hx, q⟩ := h
    refine ⟨_, (pss_one (ps_ret (pe_and (pe_df DIs_row GIs_row (hr.mono (by decide)) (pa_cons (pv 0) pa_nil)) (pe_one (pe_callB (cr_all rfl) (by rfl) T.all (by decide +kernel) (pa_cons (pe_lc (own := [("item", 1)]) rfl scAre_names.nd (pi_seq (pv 0)) (blkOk_by (own := [("item", 1)]) (N := nAre_names) (sc := defScope sAre_names) (by decide +kernel)) (fun _ _ _ _ _ => (pg_name (i := 1) scAre_names.nd rfl (Or.inl rfl))) (fun _ _ _ _ _ => pts_nil) (fun _ _ _ _ _ => (pe_df DIs_name GIs_name (hr.mono (by decide)) (pa_cons (pv 1) pa_nil)))) pa_nil)))))), ?_⟩
    cases hx with
    | @other v n hk n1 n2 =>
      refine ⟨_, rfl, _, _, rfl, hk, fun H1 s1 => ⟨_, rfl, ?_⟩⟩
      rw [beq_eq_false_iff_ne.mpr n1, beq_eq_false_iff_ne.mpr n2]
      exact q H1 s1
    | @row a xs ha hk hl =>
      have fin : ∀ {H1 H2 : Hp} {D1 : Addr}, Same H H1 → Same H1 H2 → H2 D1 = some (.lst (xs.filterMap fun v => some (V.bl (isNm v)))) → rAll K [.ref D1] H2 Q := fun {H1 H2 D1} s1 s2 h2 => by
        rw [fm_bl] at h2
        refine ⟨D1, _, rfl, SqL.of h2, ?_⟩
        have := q H2 (s1.trans s2)
        rw [show (xs.map isNm).all id = xs.all isNm by rw [List.all_map]; rfl]
        exact this
      have one : ∀ {H1 H2 : Hp} {y : V}, y ∈ xs → Same H H1 → Same H1 H2 → ∃ n, Kd K H2 y n := fun {H1 H2 y} hy s1 s2 => let ⟨n, z⟩ := hk y hy; ⟨n, z.mono (s1.trans s2)⟩
      rcases ha with ha | ha
      · refine ⟨_, rfl, _, _, rfl, kd_lst K ha, fun H1 s1 => ⟨_, rfl, ?_⟩⟩
        refine ⟨_, rfl, a, rfl, .inl ⟨⟨_, SqL.of (s1 _ _ ha)⟩, fun D1 hD1 => lc_pure (fun v => some (.bl (isNm v))) (SqL.of (s1 _ _ ha)) hl (fun _ => rfl) (fun y H2 hy s2 Q2 q2 => ?_) hD1 (fun H2 s2 h2 => fin s1 s2 h2)⟩⟩
        obtain ⟨n, z⟩ := one hy s1 s2
        exact ⟨_, rfl, y, n, rfl, z, fun H3 s3 => q2 H3 s3⟩
      · refine ⟨_, rfl, _, _, rfl, kd_tup K ha, fun H1 s1 => ⟨_, rfl, ?_⟩⟩
        refine ⟨_, rfl, a, rfl, .inr ⟨⟨_, SqT.of (s1 _ _ ha)⟩, fun D1 hD1 => lc_pureT (fun v => some (.bl (isNm v))) (SqT.of (s1 _ _ ha)) hl (fun _ => rfl) (fun y H2 hy s2 Q2 q2 => ?_) hD1 (fun H2 s2 h2 => fin s1 s2 h2)⟩⟩
        obtain ⟨n, z⟩ := one hy s1 s2
        exact ⟨_, rfl, y, n, rfl, z, fun H3 s3 => q2 H3 s3⟩
abbrev sCheck_head : Stmt := topS 17
abbrev nCheck_head : List Str := ["name", "post"]
theorem scCheck_head : FnScope nCheck_head ["name", "post"] (defScope sCheck_head) := ⟨rfl, rfl, rfl, by decide +kernel, rfl, by decide +kernel, by decide +kernel⟩
def spHead (K : PySem.W.Frag) (CN CP : Addr) : Sp := fun vs H Q E => ∃ (v p : V) (n m : String), vs = [v, p] ∧ Kd K H v n ∧ Kd K H p m ∧
  (isNm v = false → ∀ dd H', H dd = none → Same H H' → H' dd = some (.xd [("value", v)]) → E (.ref CN) (some dd) H') ∧
  (isNm v = true → btw 0 1 p = false → ∀ dd H', H dd = none → Same H H' → H' dd = some (.xd [("value", p)]) → E (.ref CP) (some dd) H') ∧
  (isNm v = true → btw 0 1 p = true → ∀ H', Same H H' → Q .non H')
theorem ok_head (D : Df K mg "check_head" sCheck_head ["name", "post"] f fd) (XBadName : ExcT P w K mg "BadName" CN fX "value" fdX) (XBadPost : ExcT P w K mg "BadPost" CP fY "value" fdY) (DIs_name : Df K mg "is_name" sIs_name ["thing"] fA fdA) (GIs_name : FnOk P w K mg base CX0 1 fA fdA ["thing"] (spIsName K))
    (DIs_between : Df K mg "is_between" sIs_between ["thing", "low", "high"] fB fdB) (GIs_between : FnOk P w K mg base CX0 2 fB fdB ["thing", "low", "high"] (spIsBetween K)) : FnOk P w K mg base (L2.CX P w) 3 f fd ["name", "post"] (spHead K CN CP) := by
  refine D.fn.okX scCheck_head (fun vs H Q E h => ?_) (fun cdv A outer s H vs Q E hr h => ?_)
  · obtain ⟨v, p, n, m, rfl, _⟩ := h
    rfl
  · obtain ⟨v, p, n, m, rfl, hv, hp, q1, q2, q3⟩ := h
    refine ⟨_, (pss_cons (ps_if (pt_not (pt_val (pe_df DIs_name GIs_name (hr.mono (by decide)) (pa_cons (pv 0) pa_nil)))) (pss_one (ps_raiseX XBadName (hr.mono (by decide)) (by rfl) rfl (takes_of rfl rfl rfl rfl) (pa_cons (pv 0) pa_nil))) pss_nil)
      (pss_one (ps_if (pt_not (pt_val (pe_df DIs_between GIs_between (hr.mono (by decide)) (pa_cons (pv 1) (pa_cons pe_int (pa_cons pe_int pa_nil)))))) (pss_one (ps_raiseX XBadPost (hr.mono (by decide)) (by rfl) rfl (takes_of rfl rfl rfl rfl) (pa_cons (pv 1) pa_nil))) pss_nil))), ?_⟩
    refine ⟨_, rfl, v, n, rfl, hv, fun H1 s1 => ⟨_, rfl, ?_⟩⟩
    cases c1 : isNm v with
    | false => exact ⟨_, rfl, mkx fun dd nd => q1 c1 dd _ (s1.free nd) (s1.trans (same_upd nd)) upd_same⟩
    | true =>
      refine ⟨_, rfl, p, m, 0, 1, rfl, hp.mono s1, _, rfl, ?_⟩
      cases c2 : btw 0 1 p with
      | false => exact ⟨_, rfl, mkx fun dd nd => q2 c1 c2 dd _ (s1.free nd) (s1.trans (same_upd nd)) upd_same⟩
      | true => exact q3 c1 c2 H1 s1
abbrev sCheck_cost : Stmt := topS 18
abbrev nCheck_cost : List Str := ["cost"]
theorem scCheck_cost : FnScope nCheck_cost ["cost"] (defScope sCheck_cost) := ⟨rfl, rfl, rfl, by decide +kernel, rfl, by decide +kernel, by decide +kernel⟩
def spCost (K : PySem.W.Frag) (CC : Addr) : Sp := fun vs H Q E => ∃ (v : V) (n : String), vs = [v] ∧ Kd K H v n ∧
  (btw 1 1000 v = false → ∀ dd H', H dd = none → Same H H' → H' dd = some (.xd [("value", v)]) → E (.ref CC) (some dd) H') ∧ (btw 1 1000 v = true → Q .non H)
theorem ok_cost (D : Df K mg "check_cost" sCheck_cost ["cost"] f fd) (XBadCost : ExcT P w K mg "BadCost" CC fX "value" fdX) (DIs_between : Df K mg "is_between" sIs_between ["thing", "low", "high"] fB fdB) (GIs_between : FnOk P w K mg base CX0 2 fB fdB ["thing", "low", "high"] (spIsBetween K)) (C : Cm mg) :
    FnOk P w K mg base (L2.CX P w) 3 f fd ["cost"] (spCost K CC) := by
  obtain ⟨t, hMC⟩ := C.mc
  refine D.fn.okX scCheck_cost (fun vs H Q E h => ?_) (fun cdv A outer s H vs Q E hr h => ?_)
  · obtain ⟨v, n, rfl, _⟩ := h
    rfl
  · obtain ⟨v, n, rfl, hv, q1, q2⟩ := h
    refine ⟨_, (pss_one (ps_if (pt_not (pt_val (pe_df DIs_between GIs_between (hr.mono (by decide)) (pa_cons (pv 0) (pa_cons pe_int (pa_cons (pe_glob (v := .int 1000) (by rfl) hMC ⟨_, rfl⟩) pa_nil)))))) (pss_one (ps_raiseX XBadCost (hr.mono (by decide)) (by rfl) rfl (takes_of rfl rfl rfl rfl) (pa_cons (pv 0) pa_nil))) pss_nil)), ?_⟩
    refine ⟨_, rfl, v, n, 1, 1000, rfl, hv, _, rfl, ?_⟩
    cases c2 : btw 1 1000 v with
    | false => exact ⟨_, rfl, mkx fun dd nd => q1 c2 dd _ nd (same_upd nd) upd_same⟩
    | true => exact q2 c2
abbrev sAre_sights : Stmt := topS 19
abbrev nAre_sights : List Str := ["thing", "word"]
theorem scAre_sights : FnScope nAre_sights ["thing"] (defScope sAre_sights) := ⟨rfl, rfl, rfl, by decide +kernel, rfl, by decide +kernel, by decide +kernel⟩
def spAreS (K : PySem.W.Frag) : Sp := fun vs H Q _ => ∃ (x : V) (b : Bool), vs = [x] ∧ SgQ K H x b ∧ ∀ H', Same H H' → Q (.bl b) H'
theorem ok_are_sights (D : Df K mg "are_sights" sAre_sights ["thing"] f fd) (DIs_name : Df K mg "is_name" sIs_name ["thing"] fB fdB) (GIs_name : FnOk P w K mg base CX0 1 fB fdB ["thing"] (spIsName K)) (T : Bl mg) (Tdict : mg "dict" = none) (C : Cm mg) :
    FnOk P w K mg base CX0 2 f fd ["thing"] (spAreS K) := by
  obtain ⟨t, hMW⟩ := C.mw
  refine D.fn.ok scAre_sights (fun vs H Q E h => ?_) (fun cdv A outer s H vs Q E hr h => ?_)
  · obtain ⟨x, ds, rfl, _⟩ := h
    rfl
  · obtain ⟨x, b, rfl, hx, q⟩ := h
    refine ⟨_, (pss_cons (ps_if (PW.pt (pw_or (pt_not (pt_val (pe_callB call_isiY (by rfl) T.isinstance (by decide +kernel) (pa_cons (pv 0) (pa_cons (pe_bltn (v := .ty "dict") (by rfl) Tdict (by decide +kernel) rfl) pa_nil))))) (pw_or1 (pt_not (pt_chain op_le op_le pe_int (pe_callB cr_lenDR (by rfl) T.len (by decide +kernel) (pa_cons (pv 0) pa_nil)) (pe_glob (v := .int 10) (by rfl) hMW ⟨_, rfl⟩)))))) (pss_one (ps_ret pe_bl)) pss_nil)
      (pss_one (ps_ret (pe_callB (cr_all rfl) (by rfl) T.all (by decide +kernel) (pa_cons (pe_lock (pe_lc (own := [("word", 1)]) rfl scAre_sights.nd (pi_keysR (pv 0)) (blkOk_by (own := [("word", 1)]) (N := nAre_sights) (sc := defScope sAre_sights) (by decide +kernel)) (fun _ _ _ _ _ => (pg_name (i := 1) scAre_sights.nd rfl (Or.inl rfl))) (fun _ _ _ _ _ => pts_nil) (fun _ _ _ _ _ => (pe_and (pe_df DIs_name GIs_name (hr.mono (by decide)) (pa_cons (pv 1) pa_nil)) (pe_one (pe_df DIs_name GIs_name (hr.mono (by decide)) (pa_cons (pe_dget (hu1 hr) (pv 0) (pv 1) (fun _ _ => rfl)) pa_nil))))))) pa_nil))))), ?_⟩
    cases hx with
    | @other v n hk n1 =>
      refine ⟨_, rfl, _, _, _, _, _, rfl, .ty "dict", .x hk.1, kit_dict hk.2.1, _, rfl, ?_⟩
      rw [beq_eq_false_iff_ne.mpr n1]
      exact q H (Same.refl _)
    | @raw a e ep k ha rk ok =>
      have hn : isNm k = false := (ok.kd (K := K)).1
      refine ⟨_, rfl, _, _, _, _, _, rfl, .ty "dict", .raw ha, kit_dict (by decide), _, rfl, ?_⟩
      refine ⟨_, rfl, a, 1, rfl, .inr ⟨e, ep, ha, rfl⟩, _, _, rfl, rfl, _, rfl, ?_⟩
      refine ⟨_, _, rfl, rfl, _, rfl, ?_⟩
      refine ⟨a, _, ha, trivial, fun od => ⟨_, rfl, a, od, rfl, .inr ⟨e, ep, k, upd_same, rk, fun D1 hD1 => ?_⟩⟩⟩
      have hDa : D1 ≠ a := fun z => by rw [z, upd_same] at hD1; cases hD1
      have hy1 : ∀ (i : Nat) (H : Hp) (x : V) (H' : Hp), (Itz a od e ep k).yld i H x H' → i < [k].length → H' = H ∧ [k][i]? = some x := fun i H x H' hyl hi => by
        have hi : i < 1 := hi
        have e0 : i = 0 := by omega
        subst e0
        exact ⟨hyl.1, by rw [hyl.2]; rfl⟩
      refine lc_pureJ (J := Itz a od e ep k) (d := a) (fz := .frz od (rawO a e ep)) [k] (fun v => some (.bl (isNm v))) (fun i H hh hi => ⟨hh, hi⟩) hy1 (fun i H hh hi => ⟨hh, hi⟩) upd_same (by show 1 ≤ 1000; decide) (fun _ => rfl) (fun y H2 hy s2 Q2 q2 => ?_) hD1 (fun H2 s2 h2 => ?_)
      · obtain rfl : y = k := List.mem_singleton.mp hy
        obtain ⟨_, n, hk⟩ := ((ok.off ha (o := .frz od (rawO a e ep))).mono s2).kd (K := K)
        refine ⟨_, rfl, y, n, rfl, hk, fun H3 s3 => ⟨_, rfl, ?_⟩⟩
        have := q2 H3 s3
        rw [hn] at this ⊢
        exact this
      · refine ⟨s2 _ _ upd_same, D1, [isNm k], rfl, SqL.of (by rw [upd_ne hDa]; exact h2), ?_⟩
        rw [show [isNm k].all id = false by simp [hn]]
        exact q _ (same_lock ha s2)
    | @dk a kvs ha hk hz nd hl =>
      refine ⟨_, rfl, _, _, _, _, _, rfl, .ty "dict", .x (.base (.dK ha)), kit_dict (by decide), _, rfl, ?_⟩
      refine ⟨_, rfl, a, kvs.length, rfl, .inl ⟨kvs, ha, rfl⟩, _, _, rfl, rfl, _, rfl, ?_⟩
      by_cases h1 : (1 : Int) ≤ (kvs.length : Int)
      · rw [decide_eq_true h1]
        refine ⟨_, _, rfl, rfl, _, rfl, ?_⟩
        by_cases h2 : (kvs.length : Int) ≤ 10
        · rw [decide_eq_true h2]
          refine ⟨a, _, ha, trivial, fun od => ⟨_, rfl, a, od, rfl, .inl ⟨kvs, upd_same, fun D1 hD1 => ?_⟩⟩⟩
          have hDa : D1 ≠ a := fun z => by rw [z, upd_same] at hD1; cases hD1
          have hy1 : ∀ (i : Nat) (H : Hp) (x : V) (H' : Hp), (Itk a od kvs).yld i H x H' → i < (kvs.map fun p => kV p.1).length → H' = H ∧ (kvs.map fun p => kV p.1)[i]? = some x := fun i H x H' hyl hi => by
            obtain ⟨e0, k, v, e1, e2⟩ := hyl
            refine ⟨e0, ?_⟩
            rw [List.getElem?_map, e1, e2]
            rfl
          refine lc_pureJ (J := Itk a od kvs) (d := a) (fz := .frz od (.dK kvs)) (kvs.map fun p => kV p.1) (sgF kvs) (fun i H hh hi => ⟨hh, by simpa using hi⟩) hy1 (fun i H hh hi => ⟨hh, by simpa using hi⟩) upd_same (by rw [List.length_map]; exact hl) (fun _ => rfl) (fun y H2 hy s2 Q2 q2 => ?_) hD1 (fun H2 s2 h2' => ?_)
          · obtain ⟨p, hp, rfl⟩ := List.mem_map.mp hy
            rw [sgF_at nd hp] at q2
            obtain ⟨n1, k1⟩ : ∃ n, Kd K H2 (kV p.1) n := by
              cases e1 : p.1 with
              | inl i => exact ⟨_, kd_int K H2 i⟩
              | inr z => exact ⟨_, kd_str K H2 (hz p hp z e1)⟩
            refine ⟨_, rfl, kV p.1, n1, rfl, k1, fun H3 s3 => ⟨_, rfl, ?_⟩⟩
            cases c1 : isNm (kV p.1) with
            | false =>
              have := q2 H3 s3
              rw [c1] at this
              exact this
            | true =>
              obtain ⟨n2, k2⟩ := (hk p hp).kd (K := K) (H := H3)
              refine ⟨_, rfl, _, rfl, a, p.2, rfl, .inl ⟨kvs, p.1, .inr ⟨od, s3 _ _ (s2 _ _ upd_same)⟩, rfl, (val_nodup nd p hp).symm⟩, p.2, n2, rfl, k2, fun H4 s4 => ?_⟩
              have := q2 H4 (s3.trans s4)
              rw [c1, Bool.true_and] at this
              exact this
          · rw [sgF_all nd] at h2'
            refine ⟨s2 _ _ upd_same, D1, _, rfl, SqL.of (by rw [upd_ne hDa]; exact h2'), ?_⟩
            rw [decide_eq_true (show 1 ≤ kvs.length by omega), decide_eq_true (show kvs.length ≤ 10 by omega)] at q
            have := q _ (same_lock ha s2)
            rw [List.all_map]
            exact this
        · rw [decide_eq_false h2]
          rw [decide_eq_false (show ¬ kvs.length ≤ 10 by omega), Bool.and_false] at q
          exact q H (Same.refl _)
      · rw [decide_eq_false h1]
        rw [decide_eq_false (show ¬ 1 ≤ kvs.length by omega)] at q
        exact ⟨_, rfl, q H (Same.refl _)⟩
end
end WW

set_option Elab.async false
set_option linter.all false
set_option maxRecDepth 100000
set_option maxHeartbeats 4000000
namespace WW
open PySem PySem.Spec PyProof.Rows L2
/-! ### instruments -/
def iF (t p c : V) : List (Str × V) := putF "fee" c (putF "place" p (putF "title" t []))
def sF (t p c : V) (r : Addr) : List (Str × V) := putF "shows" (.ref r) (iF t p c)
def lF (t p c : V) (r : Addr) : List (Str × V) := putF "stops" (.ref r) (iF t p c)
theorem fn1 : ¬ (("title" : Str) = "fee") := by decide +kernel
theorem fn2 : ¬ (("title" : Str) = "place") := by decide +kernel
theorem fn3 : ¬ (("place" : Str) = "fee") := by decide +kernel
theorem fn4 : ¬ (("title" : Str) = "shows") := by decide +kernel
theorem fn5 : ¬ (("place" : Str) = "shows") := by decide +kernel
theorem fn6 : ¬ (("fee" : Str) = "shows") := by decide +kernel
theorem fn7 : ¬ (("title" : Str) = "stops") := by decide +kernel
theorem fn8 : ¬ (("place" : Str) = "stops") := by decide +kernel
theorem fn9 : ¬ (("fee" : Str) = "stops") := by decide +kernel
theorem iF_t (t p c : V) : (iF t p c).lookup ("title" : Str) = some t := by
  unfold iF
  rw [lookup_putF, if_neg fn1, lookup_putF, if_neg fn2, lookup_putF, if_pos rfl]
theorem iF_p (t p c : V) : (iF t p c).lookup ("place" : Str) = some p := by
  unfold iF
  rw [lookup_putF, if_neg fn3, lookup_putF, if_pos rfl]
theorem iF_c (t p c : V) : (iF t p c).lookup ("fee" : Str) = some c := by
  unfold iF
  rw [lookup_putF, if_pos rfl]
/-- the fields of an instrument -/
structure Fl (fs : List (Str × V)) (t p c : V) : Prop where
  t_ : fs.lookup ("title" : Str) = some t
  p_ : fs.lookup ("place" : Str) = some p
  c_ : fs.lookup ("fee" : Str) = some c
  h_ : fs.lookup ("head" : Str) = none
theorem sF_fl (t p c : V) (r : Addr) : Fl (sF t p c r) t p c := by
  refine ⟨?_, ?_, ?_, ?_⟩
  · unfold sF
    rw [lookup_putF, if_neg fn4, iF_t]
  · unfold sF
    rw [lookup_putF, if_neg fn5, iF_p]
  · unfold sF
    rw [lookup_putF, if_neg fn6, iF_c]
  · unfold sF iF
    rw [lookup_putF, if_neg (by decide +kernel), lookup_putF, if_neg (by decide +kernel), lookup_putF, if_neg (by decide +kernel), lookup_putF, if_neg (by decide +kernel)]
    rfl
theorem lF_fl (t p c : V) (r : Addr) : Fl (lF t p c r) t p c := by
  refine ⟨?_, ?_, ?_, ?_⟩
  · unfold lF
    rw [lookup_putF, if_neg fn7, iF_t]
  · unfold lF
    rw [lookup_putF, if_neg fn8, iF_p]
  · unfold lF
    rw [lookup_putF, if_neg fn9, iF_c]
  · unfold lF iF
    rw [lookup_putF, if_neg (by decide +kernel), lookup_putF, if_neg (by decide +kernel), lookup_putF, if_neg (by decide +kernel), lookup_putF, if_neg (by decide +kernel)]
    rfl
theorem sF_s (t p c : V) (r : Addr) : (sF t p c r).lookup ("shows" : Str) = some (.ref r) := by
  unfold sF
  rw [lookup_putF, if_pos rfl]
theorem lF_s (t p c : V) (r : Addr) : (lF t p c r).lookup ("stops" : Str) = some (.ref r) := by
  unfold lF
  rw [lookup_putF, if_pos rfl]
/-- a class of instruments -/
structure Kl (K : PySem.W.Frag) (C : Addr) : Prop where
  cl : Cls K C
  nT : NoAttr K C "title"
  nP : NoAttr K C "place"
  nF : NoAttr K C "fee"
  nS : NoAttr K C "shows"
  nO : NoAttr K C "stops"
  ic : C8.InsC K C
theorem Kl.ty {K : PySem.W.Frag} {C a dx : Addr} {fs : List (Str × V)} {H : Hp} (k : Kl K C) (ha : H a = some (.ins C dx fs)) : TyX K H (.ref a) (.ref C) := .base (.ins ha k.cl k.ic.ha k.ic.hn k.ic.htk k.ic.hm)
section
variable {P : Program} {w : World} {K : PySem.W.Frag} {mg : Str → Option Value} {base : Heap} {f fA fB fC fX fY C CS CL CI : Addr} {fd fdA fdB fdC fdX fdY : FuncData}
abbrev sInstrument_init : Stmt := inClass (topS 20) 0
abbrev nInstrument_init : List Str := ["self", "name", "post", "cost"]
theorem scInstrument_init : FnScope nInstrument_init ["self", "name", "post", "cost"] (defScope sInstrument_init) := ⟨rfl, rfl, rfl, by decide +kernel, rfl, by decide +kernel, by decide +kernel⟩
def spIInit (K : PySem.W.Frag) : Sp := fun vs H Q _ => ∃ (x dx C : Addr) (t p c : V), vs = [.ref x, t, p, c] ∧ H x = some (.ins C dx []) ∧ Kl K C ∧ Q .non (upd H x (.ins C dx (iF t p c)))
theorem ok_iinit (F : Fun K "__init__" "Instrument.__init__" sInstrument_init f fd) : FnOk P w K mg base CX0 1 f fd ["self", "name", "post", "cost"] (spIInit K) := by
  refine F.ok scInstrument_init (fun vs H Q E h => ?_) (fun cdv A outer s H vs Q E hr h => ?_)
  · obtain ⟨x, dx, C, t, p, c, rfl, _⟩ := h
    rfl
  · obtain ⟨x, dx, C, t, p, c, rfl, hx, k, q⟩ := h
    refine ⟨_, (pss_cons (ps_fld (pv 0) (pv 1) rfl)
      (pss_cons (ps_fld (pv 0) (pv 2) rfl)
      (pss_one (ps_fld (pv 0) (pv 3) rfl)))), ?_⟩
    refine ⟨_, rfl, _, rfl, x, C, dx, _, rfl, hx, k.cl, k.nT, by decide, _, rfl, _, rfl, x, C, dx, _, rfl, upd_same, k.cl, k.nP, by show 1 < 1000; decide, _, rfl, _, rfl, x, C, dx, _, rfl, upd_same, k.cl, k.nF, by show 2 < 1000; decide, ?_⟩
    rw [upd_upd, upd_upd]
    exact q
abbrev sInstrument_name : Stmt := inClass (topS 20) 1
abbrev nInstrument_name : List Str := ["self"]
theorem scInstrument_name : FnScope nInstrument_name ["self"] (defScope sInstrument_name) := ⟨rfl, rfl, rfl, by decide +kernel, rfl, by decide +kernel, by decide +kernel⟩
abbrev sInstrument_post : Stmt := inClass (topS 20) 2
abbrev nInstrument_post : List Str := ["self"]
theorem scInstrument_post : FnScope nInstrument_post ["self"] (defScope sInstrument_post) := ⟨rfl, rfl, rfl, by decide +kernel, rfl, by decide +kernel, by decide +kernel⟩
abbrev sInstrument_cost : Stmt := inClass (topS 20) 3
abbrev nInstrument_cost : List Str := ["self"]
theorem scInstrument_cost : FnScope nInstrument_cost ["self"] (defScope sInstrument_cost) := ⟨rfl, rfl, rfl, by decide +kernel, rfl, by decide +kernel, by decide +kernel⟩
abbrev sInstrument_head : Stmt := inClass (topS 20) 4
abbrev nInstrument_head : List Str := ["self"]
theorem scInstrument_head : FnScope nInstrument_head ["self"] (defScope sInstrument_head) := ⟨rfl, rfl, rfl, by decide +kernel, rfl, by decide +kernel, by decide +kernel⟩
def spFl (K : PySem.W.Frag) (g : V → V → V → V) : Sp := fun vs H Q _ => ∃ (a dx C : Addr) (fs : List (Str × V)) (t p c : V), vs = [.ref a] ∧ H a = some (.ins C dx fs) ∧ Kl K C ∧ Fl fs t p c ∧ Q (g t p c) H
theorem ok_iname (F : Fun K "name" "Instrument.name" sInstrument_name f fd) : FnOk P w K mg base CX0 1 f fd ["self"] (spFl K fun t _ _ => t) := by
  refine F.ok scInstrument_name (fun vs H Q E h => ?_) (fun cdv A outer s H vs Q E hr h => ?_)
  · obtain ⟨a, dx, C, fs, t, p, c, rfl, _⟩ := h
    rfl
  · obtain ⟨a, dx, C, fs, t, p, c, rfl, ha, k, l, q⟩ := h
    refine ⟨_, (pss_one (ps_ret (pe_fld (pv 0) rfl))), ?_⟩
    exact ⟨_, rfl, a, C, dx, fs, t, rfl, ha, k.cl, k.nT, l.t_, q⟩
theorem ok_ipost (F : Fun K "post" "Instrument.post" sInstrument_post f fd) : FnOk P w K mg base CX0 1 f fd ["self"] (spFl K fun _ p _ => p) := by
  refine F.ok scInstrument_post (fun vs H Q E h => ?_) (fun cdv A outer s H vs Q E hr h => ?_)
  · obtain ⟨a, dx, C, fs, t, p, c, rfl, _⟩ := h
    rfl
  · obtain ⟨a, dx, C, fs, t, p, c, rfl, ha, k, l, q⟩ := h
    refine ⟨_, (pss_one (ps_ret (pe_fld (pv 0) rfl))), ?_⟩
    exact ⟨_, rfl, a, C, dx, fs, p, rfl, ha, k.cl, k.nP, l.p_, q⟩
theorem ok_icost (F : Fun K "cost" "Instrument.cost" sInstrument_cost f fd) : FnOk P w K mg base CX0 1 f fd ["self"] (spFl K fun _ _ c => c) := by
  refine F.ok scInstrument_cost (fun vs H Q E h => ?_) (fun cdv A outer s H vs Q E hr h => ?_)
  · obtain ⟨a, dx, C, fs, t, p, c, rfl, _⟩ := h
    rfl
  · obtain ⟨a, dx, C, fs, t, p, c, rfl, ha, k, l, q⟩ := h
    refine ⟨_, (pss_one (ps_ret (pe_fld (pv 0) rfl))), ?_⟩
    exact ⟨_, rfl, a, C, dx, fs, c, rfl, ha, k.cl, k.nF, l.c_, q⟩
def spIHead (K : PySem.W.Frag) : Sp := fun vs H Q _ => ∃ (a dx C : Addr) (fs : List (Str × V)) (t p c : V), vs = [.ref a] ∧ H a = some (.ins C dx fs) ∧ Kl K C ∧ Fl fs t p c ∧ ∀ r, H r = none → Q (.ref r) (upd H r (.tup [t, p, c]))
theorem ok_ihead (F : Fun K "head" "Instrument.head" sInstrument_head f fd) : FnOk P w K mg base CX0 1 f fd ["self"] (spIHead K) := by
  refine F.ok scInstrument_head (fun vs H Q E h => ?_) (fun cdv A outer s H vs Q E hr h => ?_)
  · obtain ⟨a, dx, C, fs, t, p, c, rfl, _⟩ := h
    rfl
  · obtain ⟨a, dx, C, fs, t, p, c, rfl, ha, k, l, q⟩ := h
    refine ⟨_, (pss_one (ps_ret (pe_tup (pa_cons (pe_fld (pv 0) rfl) (pa_cons (pe_fld (pv 0) rfl) (pa_cons (pe_fld (pv 0) rfl) pa_nil)))))), ?_⟩
    exact ⟨_, rfl, a, C, dx, fs, t, rfl, ha, k.cl, k.nT, l.t_, _, rfl, a, C, dx, fs, p, rfl, ha, k.cl, k.nP, l.p_, _, rfl, a, C, dx, fs, c, rfl, ha, k.cl, k.nF, l.c_, by show 3 ≤ sizeLine; decide, q⟩
end
end WW

set_option Elab.async false
set_option linter.all false
set_option maxRecDepth 100000
set_option maxHeartbeats 4000000
namespace WW
open PySem PySem.Spec PyProof.Rows L2
/-- all but x stays -/
def KeepB (x : Addr) (H H' : Hp) : Prop := ∀ c o, c ≠ x → H c = some o → H' c = some o
theorem keep_same {x : Addr} {S H H' : Hp} (sS : Same S H) (nx : S x = none) (k : KeepB x H H') : Same S H' := fun c o h => k c o (ne_of_none h nx) (sS _ _ h)
/-! ### sights, plain -/
abbrev ZZ := List (Str × Str)
def dS (zs : ZZ) : List (Key × V) := zs.map fun p => (Sum.inr p.1, V.str p.2)
def look (zs : ZZ) (y : Str) : Option Str := (zs.find? fun p => decide (p.1 = y)).map (·.2)
def showZ (zs : ZZ) : ZZ := ((zs.map (·.1)).mergeSort leS).map fun y => (y, (look zs y).getD "")
def goodZ (zs : ZZ) : Prop := (zs.map (·.1)).Nodup ∧ (∀ p ∈ zs, NameOk p.1 ∧ NameOk p.2) ∧ 1 ≤ zs.length ∧ zs.length ≤ 10
theorem dS_val (zs : ZZ) (y : Str) : valV (dS zs) (Sum.inr y) = (look zs y).map V.str := by
  unfold valV dS look
  induction zs with
  | nil => rfl
  | cons p r ih =>
    rw [List.map_cons, List.find?_cons, List.find?_cons]
    by_cases h : p.1 = y
    · simp [h]
    · have h' : ¬ (Sum.inr p.1 : Key) = Sum.inr y := fun e => h (Sum.inr.inj e)
      simp only [h, h', decide_false]
      exact ih
theorem look_mem {zs : ZZ} (nd : (zs.map (·.1)).Nodup) {p : Str × Str} (h : p ∈ zs) : look zs p.1 = some p.2 := by
  unfold look
  induction zs with
  | nil => simp at h
  | cons q r ih =>
    rw [List.map_cons, List.nodup_cons] at nd
    rw [List.find?_cons]
    rcases List.mem_cons.mp h with rfl | h
    · simp
    · have hne : ¬ q.1 = p.1 := fun e => nd.1 (by rw [e]; exact List.mem_map.mpr ⟨p, h, rfl⟩)
      simp only [hne, decide_false]
      exact ih nd.2 h
theorem kvs_good {kvs : List (Key × V)} (nd : (kvs.map (·.1)).Nodup) (h : (decide (1 ≤ kvs.length) && decide (kvs.length ≤ 10) && kvs.all fun p => isNm (kV p.1) && isNm p.2) = true) : ∃ zs, kvs = dS zs ∧ goodZ zs := by
  rw [Bool.and_eq_true, Bool.and_eq_true, decide_eq_true_eq, decide_eq_true_eq] at h
  obtain ⟨⟨h1, h2⟩, h3⟩ := h
  have key : ∀ l : List (Key × V), (l.all fun p => isNm (kV p.1) && isNm p.2) = true → ∃ zs, l = dS zs ∧ ∀ p ∈ zs, NameOk p.1 ∧ NameOk p.2 := by
    intro l
    induction l with
    | nil => intro _; exact ⟨[], rfl, fun p h => by simp at h⟩
    | cons p r ih =>
      intro h
      rw [List.all_cons, Bool.and_eq_true, Bool.and_eq_true] at h
      obtain ⟨zs, rfl, hz⟩ := ih h.2
      obtain ⟨k, v⟩ := p
      obtain ⟨⟨hk, hv⟩, _⟩ := h
      cases k with
      | inl i => cases hk
      | inr y =>
        cases v with
        | str z =>
          refine ⟨(y, z) :: zs, rfl, fun q hq => ?_⟩
          rcases List.mem_cons.mp hq with rfl | hq
          · exact ⟨(nmB_iff _).mp hk, (nmB_iff _).mp hv⟩
          · exact hz q hq
        | _ => cases hv
  obtain ⟨zs, rfl, hz⟩ := key kvs h3
  have hl : (dS zs).length = zs.length := List.length_map ..
  refine ⟨zs, rfl, ?_, hz, by omega, by omega⟩
  have e : (dS zs).map (·.1) = (zs.map (·.1)).map Sum.inr := by
    unfold dS
    rw [List.map_map, List.map_map]
    rfl
  rw [e] at nd
  exact (List.pairwise_map.mp nd).imp fun {a b} h e => h (by rw [e])
theorem put_new {zs : ZZ} {y z : Str} (h : y ∉ zs.map (·.1)) : putK (dS zs) (Sum.inr y) (.str z) = dS (zs ++ [(y, z)]) := by
  rw [putK_new]
  · unfold dS
    rw [List.map_append]
    rfl
  · rw [dS_val]
    have : look zs y = none := by
      unfold look
      rw [List.find?_eq_none.mpr (fun p hp => by
        have : p.1 ≠ y := fun e => h (by rw [← e]; exact List.mem_map.mpr ⟨p, hp, rfl⟩)
        simpa using this)]
      rfl
    rw [this]
    rfl
theorem not_before {α : Type} {ts : List α} (nd : ts.Nodup) {i : Nat} {t : α} (h : ts[i]? = some t) : t ∉ ts.take i := fun m => by
  obtain ⟨j, hj, e⟩ := List.mem_take_iff_getElem.mp m
  obtain ⟨hi, e2⟩ := List.getElem?_eq_some_iff.mp h
  have := (List.getElem_inj (h₀ := by omega) (h₁ := hi) nd).mp (e.trans e2.symm)
  omega
/-- a row: a list or a tuple -/
theorem ris_le : ∀ (r : List Str) (x : Str), risingS x r = true → ∀ y ∈ r, leS x y = true
  | [], _, _, y, h => by simp at h
  | z :: r, x, h, y, hy => by
    have h : (!ltCps z.cps.toList x.cps.toList && risingS z r) = true := h
    rw [Bool.and_eq_true, PyProof.Rows.ltCps_eq] at h
    have h1 : leS x z = true := by
      refine decide_eq_true (List.not_lt.mp fun c => ?_)
      rw [decide_eq_true c] at h
      cases h.1
    rcases List.mem_cons.mp hy with rfl | hy
    · exact h1
    · exact leS_trans _ _ _ h1 (ris_le r z h.2 y hy)
theorem sorted_pw : ∀ {ys : List Str}, sortedS ys = true → ys.Pairwise fun a b => leS a b = true
  | [], _ => .nil
  | x :: r, h => by
    have h : risingS x r = true := h
    refine List.pairwise_cons.mpr ⟨fun y hy => ris_le r x h y hy, ?_⟩
    cases r with
    | nil => exact .nil
    | cons z r =>
      have h2 : (!ltCps z.cps.toList x.cps.toList && risingS z r) = true := h
      rw [Bool.and_eq_true] at h2
      exact sorted_pw (ys := z :: r) h2.2
theorem sorted_eq {ys ks : List Str} (hp : ys.Perm ks) (h : sortedS ys = true) : ys = ks.mergeSort leS := PySem.W.Srt.the_of_perm leS leS_trans leS_total leS_anti hp (sorted_pw h)
theorem SgQ.good {K : PySem.W.Frag} {H : Hp} {v : V} {b : Bool} (h : SgQ K H v b) (e : b = true) : ∃ a zs, v = .ref a ∧ H a = some (.dK (dS zs)) ∧ goodZ zs := by
  cases h with
  | other _ _ => cases e
  | raw _ _ _ => cases e
  | @dk a kvs ha _ _ nd _ =>
    obtain ⟨zs, rfl, g⟩ := kvs_good nd e
    exact ⟨a, zs, rfl, ha, g⟩
theorem keys_showZ (zs : ZZ) : (showZ zs).map (·.1) = (zs.map (·.1)).mergeSort leS := by
  unfold showZ
  rw [List.map_map]
  exact List.map_id _
section
variable {P : Program} {w : World} {K : PySem.W.Frag} {mg : Str → Option Value} {base : Heap} {f fA fB fC fX cda cc CS CN CP CG CC g : Addr} {fd fdA fdB fdC fdX fdg : FuncData}
abbrev sSensor_init : Stmt := inClass (topS 21) 0
abbrev nSensor_init : List Str := ["self", "name", "post", "sights", "cost", "word"]
theorem csS : CScope nSensor_init ["self", "name", "post", "sights", "cost"] (defScope sSensor_init) := ⟨rfl, rfl, rfl, by decide +kernel, rfl, by decide +kernel, by decide +kernel, rfl, by decide +kernel⟩
structure NDx (N : List Str) : Prop where
  nd : N.Nodup
theorem scSensor_init : NDx nSensor_init := ⟨by decide +kernel⟩
def spSInit (K : PySem.W.Frag) (CS CN CP CG CC : Addr) : Sp := fun vs H Q E => ∃ (x dx : Addr) (S : Hp) (t p g c : V) (n m l : String) (b : Bool), vs = [.ref x, t, p, g, c] ∧ H x = some (.ins CS dx []) ∧ Same S H ∧ S x = none ∧ Kd K S t n ∧ Kd K S p m ∧ SgQ K S g b ∧ Kd K S c l ∧
  (isNm t = false → ∀ dd H', H dd = none → KeepB x H H' → H' dd = some (.xd [("value", t)]) → E (.ref CN) (some dd) H') ∧
  (isNm t = true → btw 0 1 p = false → ∀ dd H', H dd = none → KeepB x H H' → H' dd = some (.xd [("value", p)]) → E (.ref CP) (some dd) H') ∧
  (isNm t = true → btw 0 1 p = true → b = false → ∀ dd H', H dd = none → KeepB x H H' → H' dd = some (.xd [("value", g)]) → E (.ref CG) (some dd) H') ∧
  (isNm t = true → btw 0 1 p = true → b = true → btw 1 1000 c = false → ∀ dd H', H dd = none → KeepB x H H' → H' dd = some (.xd [("value", c)]) → E (.ref CC) (some dd) H') ∧
  (isNm t = true → btw 0 1 p = true → b = true → btw 1 1000 c = true → ∀ a zs r H', g = .ref a → S a = some (.dK (dS zs)) → goodZ zs → H r = none → r ≠ x → KeepB x H H' → H' x = some (.ins CS dx (sF t p c r)) → H' r = some (.dK (dS (showZ zs))) → Q .non H')
theorem ok_sinit {oc doc pm ct : Value} {od : Option Addr} {osl : Array (Option Value)} (lk : K.lookup f = some ⟨oc, od, .func (PySem.W.fnX "__init__" "Sensor.__init__" (defArgs sSensor_init) (defBody sSensor_init) (defScope sSensor_init) [("__class__", cc)] .none .none doc pm none (.ref cda) ct), osl⟩) (hcd : PySem.W.codeIn K (.ref cda) "Sensor.__init__" = true)
    (TX : SupTxt P K mg f cda cc CS) (kl : Kl K CS) (hsub : PySem.W.mroIn K CS (.ref CS) = some true) (hm : PySem.W.ks_superIn K CS CS "__init__" = some (some (.ref g))) (hfi : PySem.W.fnIn K g = true) (hti : PySem.W.typeIn K (.ref g) = some (.type "function"))
    (Gi : FnOk P w K mg base CX0 1 g fdg ["self", "name", "post", "cost"] (spIInit K)) (bi : Binds K fdg ["self", "name", "post", "cost"] []) (XBadSights : ExcT P w K mg "BadSights" CG fX "value" fdX)
    (DCheck_head : Df K mg "check_head" sCheck_head ["name", "post"] fA fdA) (GCheck_head : FnOk P w K mg base (L2.CX P w) 3 fA fdA ["name", "post"] (spHead K CN CP)) (DCheck_cost : Df K mg "check_cost" sCheck_cost ["cost"] fB fdB) (GCheck_cost : FnOk P w K mg base (L2.CX P w) 3 fB fdB ["cost"] (spCost K CC))
    (DAre_sights : Df K mg "are_sights" sAre_sights ["thing"] fC fdC) (GAre_sights : FnOk P w K mg base CX0 2 fC fdC ["thing"] (spAreS K)) (T : Bl mg) :
    FnOk P w K mg base (L2.CX P w) 5 f (PySem.W.fnX "__init__" "Sensor.__init__" (defArgs sSensor_init) (defBody sSensor_init) (defScope sSensor_init) [("__class__", cc)] .none .none doc pm none (.ref cda) ct) ["self", "name", "post", "sights", "cost"] (spSInit K CS CN CP CG CC) := by
  obtain ⟨cl, cld, csl, hcell⟩ := TX.cell
  refine fn_supC (N := nSensor_init) lk hcd hcell csS (fun vs H Q E h => ?_) (fun A outer s H vs Q E hr h => ?_)
  · obtain ⟨x, dx, S, t, p, g, c, n, m, l, b, rfl, _⟩ := h
    rfl
  · obtain ⟨x, dx, S, t, p, g0, c, n, m, l, b, rfl, hx, sS, nx, kt, kp, kg, kc, q1, q2, q3, q4, q5⟩ := h
    have hX : SupX (scx (L2.CX P w) P w K mg base nSensor_init "Sensor.__init__" (defScope sSensor_init) f cda cc A outer s H E) f cda cc :=
      ⟨rfl, rfl, cf_keep _ _ _ csS.nown (by simp [List.lookup]), rfl, rfl, rfl, rfl⟩
    refine ⟨_, pat_cons (ps_expr (pe_dfS DCheck_head GCheck_head (hr.mono (by decide)) (takes_of rfl rfl rfl rfl) (pa_cons (pv 1) (pa_cons (pv 2) pa_nil))))
      (pat_cons (ps_if (pt_not (pt_val (pe_df DAre_sights GAre_sights (hr.mono (by decide)) (pa_cons (pv 3) pa_nil)))) (pss_one (ps_raiseX XBadSights (hr.mono (by decide)) (by rfl) rfl (takes_of rfl rfl rfl rfl) (pa_cons (pv 3) pa_nil))) pss_nil)
      (pat_cons (ps_expr (pe_dfS DCheck_cost GCheck_cost (hr.mono (by decide)) (takes_of rfl rfl rfl rfl) (pa_cons (pv 4) pa_nil)))
      (pat_supO TX hX hsub hm hfi hti Gi (hr.mono (by decide)) bi (pa_cons (pv 1) (pa_cons (pv 2) (pa_cons (pv 4) pa_nil)))
      (pat_of (pss_one (ps_fld (pv 0) (pe_dc (own := [("word", 5)]) rfl scSensor_init.nd (pi_list (pe_callB (call_sortedD rfl) (by rfl) T.sorted (by decide +kernel) (pa_cons (pv 3) pa_nil))) (blkOk_by (own := [("word", 5)]) (N := nSensor_init) (sc := defScope sSensor_init) (by decide +kernel)) (fun _ _ _ _ _ => (pg_name (i := 5) scSensor_init.nd rfl (Or.inl rfl))) (fun _ _ _ _ _ => pts_nil) (fun _ _ _ _ _ => (pv 5)) (fun _ _ _ _ _ => (pe_dget (hu1 hr) (pv 3) (pv 5) (fun _ _ => rfl)))) rfl)))))), ?_⟩
    have kb : ∀ {H' : Hp}, Same H H' → KeepB x H H' := fun s' c o _ h => s' _ _ h
    refine ⟨_, rfl, _, rfl, t, p, n, m, rfl, kt.mono sS, kp.mono sS, fun c1 dd H' nd s' hd => q1 c1 dd H' nd (kb s') hd, fun c1 c2 dd H' nd s' hd => q2 c1 c2 dd H' nd (kb s') hd, fun c1 c2 H1 s1 => ?_⟩
    refine ⟨_, rfl, g0, b, rfl, kg.mono (sS.trans s1), fun H2 s2 => ⟨_, rfl, ?_⟩⟩
    have s12 := s1.trans s2
    cases hb : b with
    | false => exact ⟨_, rfl, mkx fun dd nd => q3 c1 c2 hb dd _ (s12.free nd) (kb (s12.trans (same_upd nd))) upd_same⟩
    | true =>
      obtain ⟨a, zs, rfl, ha, gz⟩ := kg.good hb
      refine ⟨_, rfl, c, l, rfl, kc.mono (sS.trans s12), fun c4 dd H' nd s' hd => q4 c1 c2 hb c4 dd H' (s12.free nd) (kb (s12.trans s')) hd, fun c4 => ?_⟩
      have hx2 := s12 _ _ hx
      refine ⟨x, dx, [], rfl, hx2, _, rfl, _, rfl, _, rfl, x, dx, CS, t, p, c, rfl, hx2, kl, ?_⟩
      have nax : a ≠ x := ne_of_none ha nx
      have ha2 : upd H2 x (.ins CS dx (iF t p c)) a = some (.dK (dS zs)) := by
        rw [upd_ne nax]
        exact s12 _ _ (sS _ _ ha)
      have hx3 : upd H2 x (.ins CS dx (iF t p c)) x = some (.ins CS dx (iF t p c)) := upd_same
      have k3 : KeepB x H (upd H2 x (.ins CS dx (iF t p c))) := fun c o ne h => by
        rw [upd_ne ne]
        exact s12 _ _ h
      have f3 : ∀ r, upd H2 x (.ins CS dx (iF t p c)) r = none → H r = none ∧ r ≠ x := fun r hr => by
        have ne : r ≠ x := fun e => by rw [e, upd_same] at hr; cases hr
        rw [upd_ne ne] at hr
        exact ⟨s12.free hr, ne⟩
      generalize upd H2 x (.ins CS dx (iF t p c)) = H3 at ha2 hx3 k3 f3 ⊢
      refine ⟨_, rfl, a, dS zs, zs.map (·.1), rfl, .inl ha2, (by unfold dS; rw [List.map_map, List.map_map]; rfl), (by rw [List.length_map]; have := gz.2.2.2; omega), fun ys r0 hp hsr nr0 => ?_⟩
      have eys := sorted_eq hp hsr
      have s4 := same_upd (o := .lst (ys.map V.str)) nr0
      have ndy : ys.Nodup := hp.nodup_iff.mpr gz.1
      have ly : ys.length ≤ 10 := by rw [hp.length_eq, List.length_map]; exact gz.2.2.2
      have hH4 : ∀ {b o}, H3 b = some o → upd H3 r0 (.lst (ys.map V.str)) b = some o := fun h => s4 _ _ h
      refine ⟨r0, rfl, ⟨_, SqL.of upd_same⟩, fun D1 hD1 => dc_list (K := K) (a := r0) (xs := ys.map V.str) (fun i H' => Same (upd H3 r0 (.lst (ys.map V.str))) H' ∧ H' D1 = some (.dK (dS ((ys.take i).map fun y => (y, (look zs y).getD ""))))) ⟨same_upd hD1, upd_same⟩ (fun i H' _ h => SqL.of (h.1 _ _ upd_same)) (fun i y H' hi hp' => ?_) (fun H' hh => ?_)⟩
      · rw [List.getElem?_map] at hi
        cases hyi : ys[i]? with
        | none => rw [hyi] at hi; cases hi
        | some y' =>
          rw [hyi] at hi
          cases hi
          have hmem : y' ∈ zs.map (·.1) := hp.mem_iff.mp (List.mem_of_getElem? hyi)
          obtain ⟨pr, hpr, rfl⟩ := List.mem_map.mp hmem
          have hlk := look_mem gz.1 hpr
          have hlt : i < ys.length := (List.getElem?_eq_some_iff.mp hyi).1
          refine ⟨rfl, _, rfl, _, rfl, _, rfl, a, .str pr.2, rfl, .inl ⟨dS zs, Sum.inr pr.1, .inl (hp'.1 _ _ (hH4 ha2)), rfl, by rw [dS_val, hlk]; rfl⟩, _, Sum.inr pr.1, rfl, hp'.2, sl_ok (m := 10) (by
            unfold dS
            rw [List.length_map, List.length_map, List.length_take]
            omega), ?_⟩
          refine ⟨fun b o hb' => ?_, ?_⟩
          · rw [upd_ne (ne_of_none hb' hD1)]
            exact hp'.1 _ _ hb'
          · have hnot : pr.1 ∉ ((ys.take i).map fun y => (y, (look zs y).getD "")).map (·.1) := fun hm => by
              rw [List.map_map] at hm
              have hm : pr.1 ∈ ys.take i := by
                obtain ⟨z, hz, e⟩ := List.mem_map.mp hm
                have e : z = pr.1 := e
                rw [← e]
                exact hz
              exact not_before ndy hyi hm
            rw [upd_same, put_new hnot, take_next hyi, List.map_append]
            simp only [List.map_cons, List.map_nil, hlk, Option.getD_some]
      · obtain ⟨h1, h2⟩ := hh
        rw [List.length_map, List.take_length, eys] at h2
        have fr : H3 D1 = none := s4.free hD1
        obtain ⟨n1, n2⟩ := f3 D1 fr
        refine ⟨_, rfl, x, CS, dx, _, rfl, h1 _ _ (hH4 hx3), kl.cl, kl.nS, by show 3 < 1000; decide, ?_⟩
        refine q5 c1 c2 hb c4 a zs D1 _ rfl ha gz n1 n2 (fun c o ne h => ?_) upd_same ?_
        · rw [upd_ne ne]
          exact h1 _ _ (hH4 (k3 c o ne h))
        · rw [upd_ne n2]
          exact h2
end
end WW

set_option Elab.async false
set_option linter.all false
set_option maxRecDepth 100000
set_option maxHeartbeats 4000000
namespace WW
open PySem PySem.Spec PyProof.Rows L2
/-- what is handed in as the words of a lock: none, if they are refused -/
inductive LwQ (K : PySem.W.Frag) (H : Hp) : V → Option (List Str) → Prop
  | bad {v : V} : AnQ K H v false → LwQ K H v none
  | row {a : Addr} {zs : List Str} : (H a = some (.lst (zs.map V.str)) ∨ H a = some (.tup (zs.map V.str))) → (∀ z ∈ zs, NameOk z) → zs.length ≤ 100 → LwQ K H (.ref a) (if 1 ≤ zs.length ∧ zs.length ≤ 10 ∧ zs.Nodup then some zs else none)
theorem LwQ.mono {K : PySem.W.Frag} {H H' : Hp} {v : V} {o : Option (List Str)} (s : Same H H') (h : LwQ K H v o) : LwQ K H' v o := by
  cases h with
  | bad h => exact .bad (h.mono s)
  | row h n l => exact .row (h.imp (s _ _) (s _ _)) n l
theorem names_an {K : PySem.W.Frag} {H : Hp} {a : Addr} {zs : List Str} (h : H a = some (.lst (zs.map V.str)) ∨ H a = some (.tup (zs.map V.str))) (n : ∀ z ∈ zs, NameOk z) (l : zs.length ≤ 100) : AnQ K H (.ref a) true := by
  have e : (zs.map V.str).all isNm = true := by
    rw [List.all_map]
    exact List.all_eq_true.mpr fun z hz => (nmB_iff z).mpr (n z hz)
  rw [← e]
  refine .row h (fun x hx => ?_) (by rw [List.length_map]; omega)
  obtain ⟨z, hz, rfl⟩ := List.mem_map.mp hx
  exact ⟨_, kd_str K H (Nat.le_trans (n z hz).2.1 (by decide))⟩
theorem fold_full : ∀ (l acc : List Str), (l.foldl (fun acc k => insG k acc) acc).length = acc.length + l.length → l.Nodup ∧ ∀ x ∈ l, x ∉ acc
  | [], _, _ => ⟨List.nodup_nil, fun x h => by simp at h⟩
  | k :: r, acc, h => by
    rw [List.foldl_cons, List.length_cons] at h
    have h1 := fold_len r (insG k acc)
    have h2 := insG_len k acc
    have e : (insG k acc).length = acc.length + 1 := by omega
    have hk : k ∉ acc := fun m => by
      unfold insG at e
      rw [if_pos m] at e
      omega
    have ei : insG k acc = k :: acc := by
      unfold insG
      rw [if_neg hk]
    have ih := fold_full r (insG k acc) (by omega)
    rw [ei] at ih
    refine ⟨List.nodup_cons.mpr ⟨fun m => ih.2 k m List.mem_cons_self, ih.1⟩, fun x hx => ?_⟩
    rcases List.mem_cons.mp hx with rfl | hx
    · exact hk
    · exact fun m => ih.2 x hx (List.mem_cons_of_mem _ m)
theorem insAll_full {zs : List Str} : (insAll zs).length < zs.length ↔ ¬ zs.Nodup := by
  constructor
  · intro h nd
    have := (nodup_mem_perm (insAll_nodup zs) nd fun x => insAll_mem x zs).length_eq
    omega
  · intro h
    have h1 := insAll_len zs
    rcases Nat.lt_or_ge (insAll zs).length zs.length with c | c
    · exact c
    · exfalso
      refine h ?_
      have e : (insAll zs).length = zs.length := by omega
      exact (fold_full zs [] (by simpa [insAll] using e)).1
section
variable {P : Program} {w : World} {K : PySem.W.Frag} {mg : Str → Option Value} {base : Heap} {f fA fB fC fX cda cc CS CL CN CP CW CC g : Addr} {fd fdA fdB fdC fdX fdg : FuncData}
abbrev sLock_init : Stmt := inClass (topS 22) 0
abbrev nLock_init : List Str := ["self", "name", "post", "words", "cost", "__class__"]
theorem csL : NdefX.NScope nLock_init ["self", "name", "post", "words", "cost"] ["__class__"] (defScope sLock_init) := NdefX.nscope_by (by decide +kernel)
theorem scLock_init : NDx nLock_init := ⟨by decide +kernel⟩
def spLInit (K : PySem.W.Frag) (CL CN CP CW CC : Addr) : Sp := fun vs H Q E => ∃ (x dx : Addr) (S : Hp) (t p g c : V) (n m l : String) (o : Option (List Str)), vs = [.ref x, t, p, g, c] ∧ H x = some (.ins CL dx []) ∧ Same S H ∧ S x = none ∧ Kd K S t n ∧ Kd K S p m ∧ LwQ K S g o ∧ Kd K S c l ∧
  (isNm t = false → ∀ dd H', H dd = none → KeepB x H H' → H' dd = some (.xd [("value", t)]) → E (.ref CN) (some dd) H') ∧
  (isNm t = true → btw 0 1 p = false → ∀ dd H', H dd = none → KeepB x H H' → H' dd = some (.xd [("value", p)]) → E (.ref CP) (some dd) H') ∧
  (isNm t = true → btw 0 1 p = true → o = none → ∀ dd H', H dd = none → KeepB x H H' → H' dd = some (.xd [("value", g)]) → E (.ref CW) (some dd) H') ∧
  (isNm t = true → btw 0 1 p = true → o ≠ none → btw 1 1000 c = false → ∀ dd H', H dd = none → KeepB x H H' → H' dd = some (.xd [("value", c)]) → E (.ref CC) (some dd) H') ∧
  (isNm t = true → btw 0 1 p = true → btw 1 1000 c = true → ∀ zs r H', o = some zs → H r = none → r ≠ x → KeepB x H H' → H' x = some (.ins CL dx (lF t p c r)) → H' r = some (.lst ((zs.mergeSort leS).map V.str)) → Q .non H')
theorem strP2_fst (zs : List Str) : (strP zs).map (·.1) = zs.map V.str := strP_fst zs
theorem ok_linit {oc doc pm ct : Value} {od : Option Addr} {osl : Array (Option Value)} (lk : K.lookup f = some ⟨oc, od, .func (PySem.W.fnX "__init__" "Lock.__init__" (defArgs sLock_init) (defBody sLock_init) (defScope sLock_init) [("__class__", cc)] .none .none doc pm none (.ref cda) ct), osl⟩) (hcd : PySem.W.codeIn K (.ref cda) "Lock.__init__" = true)
    (TX : SupTxt P K mg f cda cc CL) (kl : Kl K CL) (hsub : PySem.W.mroIn K CL (.ref CL) = some true) (hm : PySem.W.ks_superIn K CL CL "__init__" = some (some (.ref g))) (hfi : PySem.W.fnIn K g = true) (hti : PySem.W.typeIn K (.ref g) = some (.type "function"))
    (Gi : FnOk P w K mg base CX0 1 g fdg ["self", "name", "post", "cost"] (spIInit K)) (bi : Binds K fdg ["self", "name", "post", "cost"] []) (XBadWords : ExcT P w K mg "BadWords" CW fX "value" fdX)
    (DCheck_head : Df K mg "check_head" sCheck_head ["name", "post"] fA fdA) (GCheck_head : FnOk P w K mg base (L2.CX P w) 3 fA fdA ["name", "post"] (spHead K CN CP)) (DCheck_cost : Df K mg "check_cost" sCheck_cost ["cost"] fB fdB) (GCheck_cost : FnOk P w K mg base (L2.CX P w) 3 fB fdB ["cost"] (spCost K CC))
    (DAre_names : Df K mg "are_names" sAre_names ["thing"] fC fdC) (GAre_names : FnOk P w K mg base CX0 2 fC fdC ["thing"] (spAreN K)) (T : Bl mg) (Tset : mg "set" = none) (C : Cm mg) :
    FnOk P w K mg base (L2.CX P w) 5 f (PySem.W.fnX "__init__" "Lock.__init__" (defArgs sLock_init) (defBody sLock_init) (defScope sLock_init) [("__class__", cc)] .none .none doc pm none (.ref cda) ct) ["self", "name", "post", "words", "cost"] (spLInit K CL CN CP CW CC) := by
  obtain ⟨tmw, hMW⟩ := C.mw
  obtain ⟨cl, cld, csl, hcell⟩ := TX.cell
  refine fn_sup (N := nLock_init) lk hcd hcell csL (fun vs H Q E h => ?_) (fun A outer s H vs Q E hr h => ?_)
  · obtain ⟨x, dx, S, t, p, g, c, n, m, l, b, rfl, _⟩ := h
    rfl
  · obtain ⟨x, dx, S, t, p, g0, c, n, m, l, o, rfl, hx, sS, nx, kt, kp, kg, kc, q1, q2, q3, q4, q5⟩ := h
    have hX : SupX (NdefX.ncx (L2.CX P w) P w K mg base nLock_init ⟨"__init__", "Lock.__init__", defArgs sLock_init, defBody sLock_init, defScope sLock_init, [("__class__", cc)], cda⟩ f A outer s H E) f cda cc :=
      ⟨rfl, rfl, by show ([("__class__", cc)] : List (Str × Addr)).lookup ("__class__" : Str) = some cc; simp [List.lookup], rfl, rfl, rfl, rfl⟩
    refine ⟨_, pat_cons (ps_expr (pe_dfS DCheck_head GCheck_head (hr.mono (by decide)) (takes_of rfl rfl rfl rfl) (pa_cons (pv 1) (pa_cons (pv 2) pa_nil))))
      (pat_cons (ps_if (PW.pt (pw_or (pt_not (pt_val (pe_df DAre_names GAre_names (hr.mono (by decide)) (pa_cons (pv 3) pa_nil)))) (pw_or (pt_not (pt_chain op_le op_le pe_int (pe_callB call_len (by rfl) T.len (by decide +kernel) (pa_cons (pv 3) pa_nil)) (pe_glob (v := .int 10) (by rfl) hMW ⟨_, rfl⟩))) (pw_or1 (pt_cmpR op_lt (pe_callB cr_lenSt (by rfl) T.len (by decide +kernel) (pa_cons (pe_callTy (cr_setOfR rfl) (by rfl) Tset (by decide +kernel) (pa_cons (pv 3) pa_nil)) pa_nil)) (pe_callB call_len (by rfl) T.len (by decide +kernel) (pa_cons (pv 3) pa_nil)) (nomark _)))))) (pss_one (ps_raiseX XBadWords (hr.mono (by decide)) (by rfl) rfl (takes_of rfl rfl rfl rfl) (pa_cons (pv 3) pa_nil))) pss_nil)
      (pat_cons (ps_expr (pe_dfS DCheck_cost GCheck_cost (hr.mono (by decide)) (takes_of rfl rfl rfl rfl) (pa_cons (pv 4) pa_nil)))
      (pat_supO TX hX hsub hm hfi hti Gi (hr.mono (by decide)) bi (pa_cons (pv 1) (pa_cons (pv 2) (pa_cons (pv 4) pa_nil)))
      (pat_of (pss_one (ps_fld (pv 0) (pe_callB (cr_sortedD (hu70 hr)) (by rfl) T.sorted (by decide +kernel) (pa_cons (pv 3) pa_nil)) rfl)))))), ?_⟩
    have kb : ∀ {H' : Hp}, Same H H' → KeepB x H H' := fun s' c o _ h => s' _ _ h
    refine ⟨_, rfl, _, rfl, t, p, n, m, rfl, kt.mono sS, kp.mono sS, fun c1 dd H' nd s' hd => q1 c1 dd H' nd (kb s') hd, fun c1 c2 dd H' nd s' hd => q2 c1 c2 dd H' nd (kb s') hd, fun c1 c2 H1 s1 => ?_⟩
    have bad : ∀ {H2 : Hp} {Q' : XK}, Same H H2 → o = none → (∀ c d H'', E c d H'' → Q' c d H'') → ∀ dd, H2 dd = none → Q' (.ref CW) (some dd) (upd H2 dd (.xd [("value", g0)])) := fun {H2 Q'} s' e k dd nd => k _ _ _ (q3 c1 c2 e dd _ (s'.free nd) (kb (s'.trans (same_upd nd))) upd_same)
    cases kg with
    | bad ka =>
      refine ⟨_, rfl, g0, false, rfl, ka.mono (sS.trans s1), fun H2 s2 => ⟨_, rfl, ?_⟩⟩
      exact ⟨_, rfl, mkx (bad (s1.trans s2) rfl fun _ _ _ z => z)⟩
    | @row a zs ha hz hl =>
      refine ⟨_, rfl, .ref a, true, rfl, (names_an ha hz hl).mono (sS.trans s1), fun H2 s2 => ⟨_, rfl, ?_⟩⟩
      have s12 := s1.trans s2
      have ha2 : H2 a = some (.lst (zs.map V.str)) ∨ H2 a = some (.tup (zs.map V.str)) := ha.imp (fun h => s12 _ _ (sS _ _ h)) (fun h => s12 _ _ (sS _ _ h))
      have hlen : LenV K (.ref a) H2 zs.length := by
        rcases ha2 with h | h
        · exact .inl ⟨_, SqL.of h, by rw [List.length_map]⟩
        · exact .inr ⟨_, SqT.of h, by rw [List.length_map]⟩
      refine ⟨_, rfl, _, zs.length, rfl, hlen, _, _, rfl, rfl, _, rfl, ?_⟩
      by_cases h1 : (1 : Int) ≤ (zs.length : Int)
      · rw [decide_eq_true h1]
        refine ⟨_, _, rfl, rfl, _, rfl, ?_⟩
        by_cases h2 : (zs.length : Int) ≤ 10
        · rw [decide_eq_true h2]
          refine ⟨_, rfl, a, zs, rfl, ha2.imp SqL.of SqT.of, hl, fun st hst => ?_⟩
          have s3 := same_upd (o := SetKo P w st ((insAll zs).map Sum.inr)) hst
          have hil := insAll_len zs
          refine ⟨st, _, rfl, upd_same, by rw [List.length_map]; omega, _, rfl, _, zs.length, rfl, ?_, _, _, rfl, rfl, _, rfl, ?_⟩
          · rcases ha2 with h | h
            · exact .inl ⟨_, SqL.of (s3 _ _ h), by rw [List.length_map]⟩
            · exact .inr ⟨_, SqT.of (s3 _ _ h), by rw [List.length_map]⟩
          have s13 := s12.trans s3
          rw [List.length_map]
          by_cases hnd : zs.Nodup
          · rw [decide_eq_false (show ¬ ((insAll zs).length : Int) < (zs.length : Int) by
              have : ¬ (insAll zs).length < zs.length := fun z => insAll_full.mp z hnd
              omega)]
            have eo : (if 1 ≤ zs.length ∧ zs.length ≤ 10 ∧ zs.Nodup then some zs else none) = some zs := if_pos ⟨by omega, by omega, hnd⟩
            rw [eo] at q4 q5
            refine ⟨_, rfl, c, l, rfl, kc.mono (sS.trans s13), fun c4 dd H' nd s' hd => q4 c1 c2 (fun z => by cases z) c4 dd H' (s13.free nd) (kb (s13.trans s')) hd, fun c4 => ?_⟩
            have hx2 := s13 _ _ hx
            refine ⟨x, dx, [], rfl, hx2, _, rfl, _, rfl, _, rfl, x, dx, CL, t, p, c, rfl, hx2, kl, ?_⟩
            have nax : a ≠ x := by
              rcases ha with h | h
              · exact ne_of_none h nx
              · exact ne_of_none h nx
            refine ⟨_, rfl, a, strP zs, rfl, ?_, strP_dp zs, (strP_ok zs).1, (strP_ok zs).2, strP_depth zs, fun r nr => ?_⟩
            · rw [strP_fst]
              rcases ha2 with h | h
              · exact .inl (SqL.of (by rw [upd_ne nax]; exact s3 _ _ h))
              · exact .inr (SqT.of (by rw [upd_ne nax]; exact s3 _ _ h))
            · have nrx : r ≠ x := fun e => by rw [e, upd_same] at nr; cases nr
              have nr2 := nr
              rw [upd_ne nrx] at nr2
              refine ⟨_, rfl, x, CL, dx, _, rfl, by rw [upd_ne nrx.symm, upd_same], kl.cl, kl.nO, by show 3 < 1000; decide, ?_⟩
              refine q5 c1 c2 c4 zs r _ rfl (s13.free nr2) nrx (fun c o ne h => ?_) upd_same ?_
              · have hr0 : c ≠ r := ne_of_none (s13 _ _ h) nr2
                rw [upd_ne ne, upd_ne hr0, upd_ne ne]
                exact s13 _ _ h
              · rw [upd_ne nrx, upd_same, strP_srt]
          · rw [decide_eq_true (show ((insAll zs).length : Int) < (zs.length : Int) by
              have := insAll_full.mpr hnd
              omega)]
            exact ⟨_, rfl, mkx (bad s13 (if_neg fun z => hnd z.2.2) fun _ _ _ z => z)⟩
        · rw [decide_eq_false h2]
          exact ⟨_, rfl, mkx (bad s12 (if_neg fun z => by omega) fun _ _ _ z => z)⟩
      · rw [decide_eq_false h1]
        exact ⟨_, rfl, _, rfl, mkx (bad s12 (if_neg fun z => by omega) fun _ _ _ z => z)⟩
end
end WW

set_option Elab.async false
set_option linter.all false
set_option maxRecDepth 100000
set_option maxHeartbeats 4000000
namespace WW
open PySem PySem.Spec PyProof.Rows L2
def SenAt (CS : Addr) (H : Hp) (a : Addr) (t p c : V) (zs : ZZ) : Prop := ∃ dx r, H a = some (.ins CS dx (sF t p c r)) ∧ H r = some (.dK (dS zs))
def LokAt (CL : Addr) (H : Hp) (a : Addr) (t p c : V) (ys : List Str) : Prop := ∃ dx r, H a = some (.ins CL dx (lF t p c r)) ∧ H r = some (.lst (ys.map V.str))
theorem SenAt.mono {CS : Addr} {H H' : Hp} {a : Addr} {t p c : V} {zs : ZZ} (s : Same H H') (h : SenAt CS H a t p c zs) : SenAt CS H' a t p c zs := let ⟨dx, r, h1, h2⟩ := h; ⟨dx, r, s _ _ h1, s _ _ h2⟩
theorem LokAt.mono {CL : Addr} {H H' : Hp} {a : Addr} {t p c : V} {ys : List Str} (s : Same H H') (h : LokAt CL H a t p c ys) : LokAt CL H' a t p c ys := let ⟨dx, r, h1, h2⟩ := h; ⟨dx, r, s _ _ h1, s _ _ h2⟩
def kS2 (zs : ZZ) : KS := zs.map fun p => (Sum.inr p.1, p.2)
theorem dS_vS (zs : ZZ) : dS zs = vS (kS2 zs) := by
  unfold dS vS kS2
  rw [List.map_map]
  rfl
def sameZ (zs ys : ZZ) : Bool := sameS (kS2 zs) (kS2 ys)
def tri (t : Str) (p c : Int) : PyData := .tuple [.str t, .int p, .int c]
theorem tri_eqv (t t' : Str) (p p' c c' : Int) : PyData.eqv (tri t p c) (tri t' p' c') = decide (t = t' ∧ p = p' ∧ c = c') := by
  simp only [tri, PyData.eqv, PyData.eqvAll, Bool.and_true]
  rw [Bool.eq_iff_iff]
  simp
theorem tri_shaped {t : Str} (h : NameOk t) (p c : Int) : SeqAt.shaped (tri t p c) = true := by
  have : (tri t p c).canLay0 = true := by simp [tri, PyData.canLay0, PyData.canLayAll0, name_sok h]
  show ((tri t p c).canLay0 && decide ((tri t p c).depth ≤ 64)) = true
  rw [this]
  simp [tri, PyData.depth, PyData.depthAll]
section
variable {P : Program} {w : World} {K : PySem.W.Frag} {mg : Str → Option Value} {base : Heap} {f fA fH CS CL : Addr} {fd fdA fdH : FuncData}
abbrev sSensor_sights : Stmt := inClass (topS 21) 1
abbrev nSensor_sights : List Str := ["self"]
theorem scSensor_sights : FnScope nSensor_sights ["self"] (defScope sSensor_sights) := ⟨rfl, rfl, rfl, by decide +kernel, rfl, by decide +kernel, by decide +kernel⟩
abbrev sSensor_words : Stmt := inClass (topS 21) 2
abbrev nSensor_words : List Str := ["self"]
theorem scSensor_words : FnScope nSensor_words ["self"] (defScope sSensor_words) := ⟨rfl, rfl, rfl, by decide +kernel, rfl, by decide +kernel, by decide +kernel⟩
abbrev sLock_words : Stmt := inClass (topS 22) 1
abbrev nLock_words : List Str := ["self"]
theorem scLock_words : FnScope nLock_words ["self"] (defScope sLock_words) := ⟨rfl, rfl, rfl, by decide +kernel, rfl, by decide +kernel, by decide +kernel⟩
def spSights (K : PySem.W.Frag) (CS : Addr) : Sp := fun vs H Q _ => ∃ (a : Addr) (t p c : V) (zs : ZZ), vs = [.ref a] ∧ SenAt CS H a t p c zs ∧ Kl K CS ∧ ∀ r, H r = none → Q (.ref r) (upd H r (.dK (dS zs)))
theorem ok_sights (F : Fun K "sights" "Sensor.sights" sSensor_sights f fd) (Tdict : mg "dict" = none) : FnOk P w K mg base CX0 1 f fd ["self"] (spSights K CS) := by
  refine F.ok scSensor_sights (fun vs H Q E h => ?_) (fun cdv A outer s H vs Q E hr h => ?_)
  · obtain ⟨a, t, p, c, zs, rfl, _⟩ := h
    rfl
  · obtain ⟨a, t, p, c, zs, rfl, ⟨dx, r, h1, h2⟩, k, q⟩ := h
    refine ⟨_, (pss_one (ps_ret (pe_callTy cr_dictD (by rfl) Tdict (by decide +kernel) (pa_cons (pe_fld (pv 0) rfl) pa_nil)))), ?_⟩
    exact ⟨_, rfl, a, CS, dx, _, _, rfl, h1, k.cl, k.nS, sF_s t p c r, r, _, rfl, .inl h2, q⟩
def spSWords (K : PySem.W.Frag) (CS : Addr) : Sp := fun vs H Q _ => ∃ (a : Addr) (t p c : V) (zs : ZZ), vs = [.ref a] ∧ SenAt CS H a t p c zs ∧ Kl K CS ∧ ∀ r, H r = none → Q (.ref r) (upd H r (.lst ((zs.map (·.1)).map V.str)))
theorem ok_swords (F : Fun K "words" "Sensor.words" sSensor_words f fd) (T : Bl mg) : FnOk P w K mg base CX0 1 f fd ["self"] (spSWords K CS) := by
  refine F.ok scSensor_words (fun vs H Q E h => ?_) (fun cdv A outer s H vs Q E hr h => ?_)
  · obtain ⟨a, t, p, c, zs, rfl, _⟩ := h
    rfl
  · obtain ⟨a, t, p, c, zs, rfl, ⟨dx, r, h1, h2⟩, k, q⟩ := h
    refine ⟨_, (pss_one (ps_ret (pe_callTy (call_list_dK rfl) (by rfl) T.list (by decide +kernel) (pa_cons (pe_fld (pv 0) rfl) pa_nil)))), ?_⟩
    refine ⟨_, rfl, a, CS, dx, _, _, rfl, h1, k.cl, k.nS, sF_s t p c r, r, _, rfl, h2, fun r2 n2 => ?_⟩
    have e : ((dS zs).map fun kv => kV kv.1) = (zs.map (·.1)).map V.str := by
      unfold dS
      rw [List.map_map, List.map_map]
      rfl
    rw [e]
    exact q r2 n2
def spLWords (K : PySem.W.Frag) (CL : Addr) : Sp := fun vs H Q _ => ∃ (a : Addr) (t p c : V) (ys : List Str), vs = [.ref a] ∧ LokAt CL H a t p c ys ∧ Kl K CL ∧ ∀ r, H r = none → Q (.ref r) (upd H r (.lst (ys.map V.str)))
theorem ok_lwords (F : Fun K "words" "Lock.words" sLock_words f fd) (T : Bl mg) : FnOk P w K mg base CX0 1 f fd ["self"] (spLWords K CL) := by
  refine F.ok scLock_words (fun vs H Q E h => ?_) (fun cdv A outer s H vs Q E hr h => ?_)
  · obtain ⟨a, t, p, c, zs, rfl, _⟩ := h
    rfl
  · obtain ⟨a, t, p, c, zs, rfl, ⟨dx, r, h1, h2⟩, k, q⟩ := h
    refine ⟨_, (pss_one (ps_ret (pe_callTy call_list_of (by rfl) T.list (by decide +kernel) (pa_cons (pe_fld (pv 0) rfl) pa_nil)))), ?_⟩
    exact ⟨_, rfl, a, CL, dx, _, _, rfl, h1, k.cl, k.nO, lF_s t p c r, r, _, rfl, .inl (SqL.of h2), q⟩
abbrev sSensor_eq : Stmt := inClass (topS 21) 3
abbrev nSensor_eq : List Str := ["self", "other"]
theorem scSensor_eq : FnScope nSensor_eq ["self", "other"] (defScope sSensor_eq) := ⟨rfl, rfl, rfl, by decide +kernel, rfl, by decide +kernel, by decide +kernel⟩
/-- the other one: a sensor, or of another class -/
def spSEq (K : PySem.W.Frag) (CS CL : Addr) : Sp := fun vs H Q _ => ∃ (a b : Addr) (t : Str) (p c : Int) (zs : ZZ), vs = [.ref a, .ref b] ∧ SenAt CS H a (.str t) (.int p) (.int c) zs ∧ NameOk t ∧
  ((∃ (t' : Str) (p' c' : Int) (ys : ZZ), SenAt CS H b (.str t') (.int p') (.int c') ys ∧ NameOk t' ∧ ∀ H', Same H H' → Q (.bl (decide (t = t' ∧ p = p' ∧ c = c') && sameZ zs ys)) H') ∨ (∃ dx fs, H b = some (.ins CL dx fs) ∧ Q (.bl false) H))
theorem ok_seq (F : Fun K "__eq__" "Sensor.__eq__" sSensor_eq f fd) (T : Bl mg) (gS : mg "Sensor" = some (.ref CS)) (kl : Kl K CS) (kll : Kl K CL) (kit0 : PySem.W.kitOne K (.ref CL) (.ref CS) = some false) (mH : Meth K CS "head" fH) (GH : FnOk P w K mg base CX0 1 fH fdH ["self"] (spIHead K)) (bH : Binds K fdH ["self"] []) :
    FnOk P w K mg base CX0 2 f fd ["self", "other"] (spSEq K CS CL) := by
  refine F.ok scSensor_eq (fun vs H Q E h => ?_) (fun cdv A outer s H vs Q E hr h => ?_)
  · obtain ⟨a, b, t, p, c, zs, rfl, _⟩ := h
    rfl
  · obtain ⟨a, b, t, p, c, zs, rfl, ⟨dx, r, h1, h2⟩, nt, hh⟩ := h
    refine ⟨_, (pss_one (ps_ret (pe_and (pe_callB call_isi (by rfl) T.isinstance (by decide +kernel) (pa_cons (pv 1) (pa_cons (pe_glob (v := .ref CS) (by rfl) gS rfl) pa_nil))) (pe_and (pe_cmpR (op_eqD hr.units) (pe_meth0 (pv 0) kl.cl mH GH (hr.mono (by decide)) bH .nil pass0) (pe_meth0 (pv 1) kl.cl mH GH (hr.mono (by decide)) bH .nil pass0) (nomark _)) (pe_one (pe_cmpR (op_eqDS (hu0 hr)) (pe_fld (pv 0) rfl) (pe_fld (pv 1) rfl) (nomark _))))))), ?_⟩
    rcases hh with ⟨t', p', c', ys, ⟨dy, r', h3, h4⟩, nt', q⟩ | ⟨dy, fs, h3, q⟩
    · refine ⟨_, rfl, _, _, _, _, _, rfl, .own CS, kl.ty h3, kl.ic.me, _, rfl, ?_⟩
      refine ⟨_, rfl, a, dx, _, rfl, h1, (sF_fl _ _ _ r).h_, a, dx, CS, _, _, _, _, rfl, h1, kl, sF_fl _ _ _ r, fun x1 n1 => ?_⟩
      have s1 := same_upd (o := .tup [.str t, .int p, .int c]) n1
      refine ⟨_, rfl, b, dy, _, rfl, s1 _ _ h3, (sF_fl _ _ _ r').h_, b, dy, CS, _, _, _, _, rfl, s1 _ _ h3, kl, sF_fl _ _ _ r', fun x2 n2 => ?_⟩
      have s2 := same_upd (o := .tup [.str t', .int p', .int c']) n2
      refine ⟨tri t p c, tri t' p' c', .tup (SqT.of (s2 _ _ upd_same)) (.cons (.str _) (.cons (.int _) (.cons (.int _) .nil))), .tup (SqT.of upd_same) (.cons (.str _) (.cons (.int _) (.cons (.int _) .nil))), tri_shaped nt p c, tri_shaped nt' p' c', _, rfl, ?_⟩
      rw [tri_eqv]
      have s12 := s1.trans s2
      cases he : decide (t = t' ∧ p = p' ∧ c = c') with
      | false =>
        rw [he] at q
        exact q _ s12
      | true =>
        rw [he, Bool.true_and] at q
        refine ⟨_, rfl, a, CS, dx, _, _, rfl, s12 _ _ h1, kl.cl, kl.nS, sF_s _ _ _ r, _, rfl, b, CS, dy, _, _, rfl, s12 _ _ h3, kl.cl, kl.nS, sF_s _ _ _ r', r, r', kS2 zs, kS2 ys, rfl, rfl, by rw [← dS_vS]; exact s12 _ _ h2, by rw [← dS_vS]; exact s12 _ _ h4, q _ s12⟩
    · exact ⟨_, rfl, _, _, _, _, _, rfl, .own CS, kll.ty h3, kit0, _, rfl, q⟩
abbrev sLock_eq : Stmt := inClass (topS 22) 2
abbrev nLock_eq : List Str := ["self", "other"]
theorem scLock_eq : FnScope nLock_eq ["self", "other"] (defScope sLock_eq) := ⟨rfl, rfl, rfl, by decide +kernel, rfl, by decide +kernel, by decide +kernel⟩
def spLEq (K : PySem.W.Frag) (CL CS : Addr) : Sp := fun vs H Q _ => ∃ (a b : Addr) (t : Str) (p c : Int) (zs : List Str), vs = [.ref a, .ref b] ∧ LokAt CL H a (.str t) (.int p) (.int c) zs ∧ NameOk t ∧ (∀ z ∈ zs, NameOk z) ∧
  ((∃ (t' : Str) (p' c' : Int) (ys : List Str), LokAt CL H b (.str t') (.int p') (.int c') ys ∧ NameOk t' ∧ (∀ z ∈ ys, NameOk z) ∧ ∀ H', Same H H' → Q (.bl (decide (t = t' ∧ p = p' ∧ c = c') && decide (zs = ys))) H') ∨ (∃ dx fs, H b = some (.ins CS dx fs) ∧ Q (.bl false) H))
theorem names_shaped {zs : List Str} (h : ∀ z ∈ zs, NameOk z) : SeqAt.shaped (.list (strsD zs)) = true := by
  have h1 : PyData.canLayAll0 (strsD zs) = true := lay_all fun d hd => by
    obtain ⟨z, hz, rfl⟩ := List.mem_map.mp hd
    simp only [PyData.canLay0]
    exact name_sok (h z hz)
  have h2 : PyData.depthAll (strsD zs) ≤ 0 := depth_all fun d hd => by
    obtain ⟨z, hz, rfl⟩ := List.mem_map.mp hd
    simp [PyData.depth]
  show (PyData.canLay0 (.list (strsD zs)) && decide (PyData.depth (.list (strsD zs)) ≤ 64)) = true
  rw [Bool.and_eq_true]
  exact ⟨by simp only [PyData.canLay0]; exact h1, decide_eq_true (by simp only [PyData.depth]; omega)⟩
theorem ok_leq (F : Fun K "__eq__" "Lock.__eq__" sLock_eq f fd) (T : Bl mg) (gL : mg "Lock" = some (.ref CL)) (kl : Kl K CL) (kll : Kl K CS) (kit0 : PySem.W.kitOne K (.ref CS) (.ref CL) = some false) (mH : Meth K CL "head" fH) (GH : FnOk P w K mg base CX0 1 fH fdH ["self"] (spIHead K)) (bH : Binds K fdH ["self"] []) :
    FnOk P w K mg base CX0 2 f fd ["self", "other"] (spLEq K CL CS) := by
  refine F.ok scLock_eq (fun vs H Q E h => ?_) (fun cdv A outer s H vs Q E hr h => ?_)
  · obtain ⟨a, b, t, p, c, zs, rfl, _⟩ := h
    rfl
  · obtain ⟨a, b, t, p, c, zs, rfl, ⟨dx, r, h1, h2⟩, nt, nz, hh⟩ := h
    refine ⟨_, (pss_one (ps_ret (pe_and (pe_callB call_isi (by rfl) T.isinstance (by decide +kernel) (pa_cons (pv 1) (pa_cons (pe_glob (v := .ref CL) (by rfl) gL rfl) pa_nil))) (pe_and (pe_cmpR (op_eqD hr.units) (pe_meth0 (pv 0) kl.cl mH GH (hr.mono (by decide)) bH .nil pass0) (pe_meth0 (pv 1) kl.cl mH GH (hr.mono (by decide)) bH .nil pass0) (nomark _)) (pe_one (pe_cmpR (op_eqD hr.units) (pe_fld (pv 0) rfl) (pe_fld (pv 1) rfl) (nomark _))))))), ?_⟩
    rcases hh with ⟨t', p', c', ys, ⟨dy, r', h3, h4⟩, nt', ny, q⟩ | ⟨dy, fs, h3, q⟩
    · refine ⟨_, rfl, _, _, _, _, _, rfl, .own CL, kl.ty h3, kl.ic.me, _, rfl, ?_⟩
      refine ⟨_, rfl, a, dx, _, rfl, h1, (lF_fl _ _ _ r).h_, a, dx, CL, _, _, _, _, rfl, h1, kl, lF_fl _ _ _ r, fun x1 n1 => ?_⟩
      have s1 := same_upd (o := .tup [.str t, .int p, .int c]) n1
      refine ⟨_, rfl, b, dy, _, rfl, s1 _ _ h3, (lF_fl _ _ _ r').h_, b, dy, CL, _, _, _, _, rfl, s1 _ _ h3, kl, lF_fl _ _ _ r', fun x2 n2 => ?_⟩
      have s2 := same_upd (o := .tup [.str t', .int p', .int c']) n2
      refine ⟨tri t p c, tri t' p' c', .tup (SqT.of (s2 _ _ upd_same)) (.cons (.str _) (.cons (.int _) (.cons (.int _) .nil))), .tup (SqT.of upd_same) (.cons (.str _) (.cons (.int _) (.cons (.int _) .nil))), tri_shaped nt p c, tri_shaped nt' p' c', _, rfl, ?_⟩
      rw [tri_eqv]
      have s12 := s1.trans s2
      cases he : decide (t = t' ∧ p = p' ∧ c = c') with
      | false =>
        rw [he] at q
        exact q _ s12
      | true =>
        rw [he, Bool.true_and] at q
        refine ⟨_, rfl, a, CL, dx, _, _, rfl, s12 _ _ h1, kl.cl, kl.nO, lF_s _ _ _ r, _, rfl, b, CL, dy, _, _, rfl, s12 _ _ h3, kl.cl, kl.nO, lF_s _ _ _ r', .list (strsD zs), .list (strsD ys), .lst (SqL.of (s12 _ _ h2)) (strs_dp _), .lst (SqL.of (s12 _ _ h4)) (strs_dp _), names_shaped nz, names_shaped ny, ?_⟩
        have e : PyData.eqv (.list (strsD zs)) (.list (strsD ys)) = decide (zs = ys) := by
          simp only [PyData.eqv]
          exact eqvAll_strs zs ys
        rw [e]
        exact q _ s12
    · exact ⟨_, rfl, _, _, _, _, _, rfl, .own CL, kll.ty h3, kit0, _, rfl, q⟩
end
end WW

set_option Elab.async false
set_option linter.all false
set_option maxRecDepth 100000
set_option maxHeartbeats 4000000
namespace WW
open PySem PySem.Spec PyProof.Rows L2
/-- two things of which _law_alike says True -/
inductive AlQ (K : PySem.W.Frag) (H : Hp) (n : Nat) : V → V → Prop
  | dat {x y : V} {d : PyData} : Dp K H x d → Dp K H y d → Sz n d = true → AlQ K H n x y
  | dk {a b : Addr} {kvs : List (Key × V)} : H a = some (.dK kvs) → H b = some (.dK kvs) → (∀ p ∈ kvs, FlV p.2) → (kvs.map (·.1)).Nodup → AlQ K H n (.ref a) (.ref b)
  | raw {a b : Addr} {e : DictEntry} {ep ep' : Nat} {k : V} : H a = some (rawO a e ep) → H b = some (rawO b e ep') → RelV k e.key → OddK H k → AlQ K H n (.ref a) (.ref b)
theorem AlQ.mono {K : PySem.W.Frag} {H H' : Hp} {n : Nat} {x y : V} (s : Same H H') (h : AlQ K H n x y) : AlQ K H' n x y := by
  cases h with
  | dat a b c => exact .dat (Dp.mono s a) (Dp.mono s b) c
  | dk a b c d => exact .dk (s _ _ a) (s _ _ b) c d
  | raw a b c d => exact .raw (s _ _ a) (s _ _ b) c (d.mono s)
theorem odd_key {H : Hp} {k : V} {e : DictEntry} (r : RelV k e.key) (o : OddK H k) : e.key = .none ∨ ∃ t, e.key = .ref t := by
  rcases o with rfl | ⟨t, xs, rfl, _⟩
  · exact .inl r
  · exact .inr ⟨t, r⟩
def rEqAl (K : PySem.W.Frag) : R2 := fun x y H Q => rEqD K x y H Q ∨ (rEqDA x y H Q ∨ rEqR x y H Q)
theorem op_eqAl {X : Cx} {k : Nat} (hr : Room k X.A) : OpR X (compareOp .Eq) (rEqAl X.K) := (op_eqD hr.units).or ((op_eq_dictA (hu0 hr)).or (op_eqR (hu0 hr)))
theorem fl_flat {v : V} (h : FlV v) : flatB v = true := by
  rcases h with rfl | ⟨z, rfl, _⟩ <;> rfl
def spAl (K : PySem.W.Frag) : Nat → Sp
  | 0 => fun _ _ _ _ => False
  | n + 1 => fun vs H Q _ => ∃ x y, vs = [x, y] ∧ AlQ K H n x y ∧ ∀ H', Same H H' → Q (.bl true) H'
section
variable {P : Program} {w : World} {K : PySem.W.Frag} {mg : Str → Option Value} {base : Heap} {f fA fH CS CL : Addr} {fd fdA fdH : FuncData}
abbrev sLalike : Stmt := topS 29
abbrev nLalike : List Str := ["_law_one", "_law_other", "_law_at"]
theorem scLalike : FnScope nLalike ["_law_one", "_law_other"] (defScope sLalike) := ⟨rfl, rfl, rfl, by decide +kernel, rfl, by decide +kernel, by decide +kernel⟩
theorem atom_shaped {n : Nat} {d : PyData} (s : Sz n d = true) (h : (kn d == "list" || kn d == "tuple") = false) : SeqAt.shaped d = true := by
  have z : Sz 0 d = true := by
    cases d with
    | list ds => simp [kn] at h
    | tuple ds => simp [kn] at h
    | dict _ => cases n <;> cases s
    | str x => exact szS (sz_str s).1 (sz_str s).2
    | _ => rfl
  exact sz_shaped z (by decide)
theorem ty_of {K : PySem.W.Frag} {H : Hp} {n : Nat} {x y : V} (h : AlQ K H n x y) : ∃ m, m ∈ kinds ∧ TyY K H x (.type m) ∧ TyY K H y (.type m) ∧
    ((m == "list" || m == "tuple") = true → ∃ (a b : Addr) (xs ys : List V) (ds : List PyData) (n' : Nat), x = .ref a ∧ y = .ref b ∧ ((SqL K H a xs ∧ SqL K H b ys) ∨ (SqT K H a xs ∧ SqT K H b ys)) ∧ DpAll K H xs ds ∧ DpAll K H ys ds ∧ ds.length ≤ 900 ∧ n = n' + 1 ∧ ∀ d ∈ ds, Sz n' d = true) ∧
    ((m == "list" || m == "tuple") = false → (∃ d, Dp K H x d ∧ Dp K H y d ∧ SeqAt.shaped d = true) ∨ (∀ Q : VK, Q (.bl true) H → rEqDA x y H Q ∨ rEqR x y H Q)) := by
  cases h with
  | @dat x y d a b c =>
    refine ⟨kn d, (kd_of a c).2.1, .x (kd_of a c).1, .x (kd_of b c).1, fun hr => ?_, fun hr => .inl ⟨d, a, b, atom_shaped c hr⟩⟩
    cases d with
    | list ds =>
      cases a with
      | lst a1 a2 =>
        cases b with
        | lst b1 b2 =>
          cases n with
          | zero => cases c
          | succ n' =>
            have c' := sz_tup (n := n' + 1) (ds := ds) c
            exact ⟨_, _, _, _, ds, n', rfl, rfl, .inl ⟨a1, b1⟩, a2, b2, c'.1, rfl, c'.2⟩
    | tuple ds =>
      cases a with
      | tup a1 a2 =>
        cases b with
        | tup b1 b2 =>
          cases n with
          | zero => cases c
          | succ n' =>
            have c' := sz_tup (n := n' + 1) (ds := ds) c
            exact ⟨_, _, _, _, ds, n', rfl, rfl, .inr ⟨a1, b1⟩, a2, b2, c'.1, rfl, c'.2⟩
    | _ => simp [kn] at hr
  | dk a b c d => exact ⟨"dict", by decide, .x (.base (.dK a)), .x (.base (.dK b)), fun z => by simp at z, fun _ => .inr fun Q q => .inl ⟨_, _, _, _, rfl, rfl, a, b, rfl, fun p hp => ⟨val_nodup d p hp, fl_flat (c p hp)⟩, q⟩⟩
  | raw a b c d => exact ⟨"dict", by decide, .raw a, .raw b, fun z => by simp at z, fun _ => .inr fun Q q => .inr ⟨_, _, _, _, _, rfl, rfl, a, b, odd_key c d, q⟩⟩
theorem tyY_mono {K : PySem.W.Frag} {H H' : Hp} {x : V} {t : Value} (s : Same H H') (h : TyY K H x t) : TyY K H' x t := by
  cases h with
  | x h => exact .x (tyx_mono s h)
  | raw h => exact .raw (s _ _ h)
theorem ok_alike_step {k n : Nat} (D : Df K mg "_law_alike" sLalike ["_law_one", "_law_other"] f fd) (T : Bl mg) (GLalike : FnOk P w K mg base CX0 k f fd ["_law_one", "_law_other"] (spAl K n)) : FnOk P w K mg base CX0 (k + 1) f fd ["_law_one", "_law_other"] (spAl K (n + 1)) := by
  have DLalike := D
  refine D.fn.ok scLalike (fun vs H Q E h => ?_) (fun cdv A outer s H vs Q E hr h => ?_)
  · obtain ⟨x, y, rfl, _⟩ := h
    rfl
  · obtain ⟨x, y, rfl, hxy, q⟩ := h
    refine ⟨_, (pss_cons (ps_if (pt_cmpR op_ne (pe_callB call_isiY (by rfl) T.isinstance (by decide +kernel) (pa_cons (pv 0) (pa_cons (pe_bltn (v := .ty "bool") (by rfl) T.bool (by decide +kernel) rfl) pa_nil))) (pe_callB call_isiY (by rfl) T.isinstance (by decide +kernel) (pa_cons (pv 1) (pa_cons (pe_bltn (v := .ty "bool") (by rfl) T.bool (by decide +kernel) rfl) pa_nil))) (nomark _)) (pss_one (ps_ret pe_bl)) pss_nil)
      (pss_cons (ps_if (pt_val (pe_callB call_isiTY (by rfl) T.isinstance (by decide +kernel) (pa_cons (pv 1) (pa_cons (pe_tup (pa_cons (pe_bltn (v := .ty "list") (by rfl) T.list (by decide +kernel) rfl) (pa_cons (pe_bltn (v := .ty "tuple") (by rfl) T.tuple (by decide +kernel) rfl) pa_nil))) pa_nil)))) (pss_cons (ps_if (PW.pt (pw_or (pt_cmpR op_ne (pe_callB call_isiY (by rfl) T.isinstance (by decide +kernel) (pa_cons (pv 0) (pa_cons (pe_bltn (v := .ty "list") (by rfl) T.list (by decide +kernel) rfl) pa_nil))) (pe_callB call_isiY (by rfl) T.isinstance (by decide +kernel) (pa_cons (pv 1) (pa_cons (pe_bltn (v := .ty "list") (by rfl) T.list (by decide +kernel) rfl) pa_nil))) (nomark _)) (pw_or1 (pt_cmpR op_ne (pe_callB call_isiY (by rfl) T.isinstance (by decide +kernel) (pa_cons (pv 0) (pa_cons (pe_bltn (v := .ty "tuple") (by rfl) T.tuple (by decide +kernel) rfl) pa_nil))) (pe_callB call_isiY (by rfl) T.isinstance (by decide +kernel) (pa_cons (pv 1) (pa_cons (pe_bltn (v := .ty "tuple") (by rfl) T.tuple (by decide +kernel) rfl) pa_nil))) (nomark _))))) (pss_one (ps_ret pe_bl)) pss_nil)
      (pss_cons (ps_if (pt_cmpR op_ne (pe_callB call_len (by rfl) T.len (by decide +kernel) (pa_cons (pv 0) pa_nil)) (pe_callB call_len (by rfl) T.len (by decide +kernel) (pa_cons (pv 1) pa_nil)) (nomark _)) (pss_one (ps_ret pe_bl)) pss_nil)
      (pss_one (ps_ret (pe_cmpR op_eq (pe_callB call_len (by rfl) T.len (by decide +kernel) (pa_cons (pe_lc (own := [("_law_at", 2)]) rfl scLalike.nd (pi_range1 (by rfl) T.range (pa_cons (pe_callB call_len (by rfl) T.len (by decide +kernel) (pa_cons (pv 1) pa_nil)) pa_nil)) (blkOk_by (own := [("_law_at", 2)]) (N := nLalike) (sc := defScope sLalike) (by decide +kernel)) (fun _ _ _ _ _ => (pg_name (i := 2) scLalike.nd rfl (Or.inl rfl))) (fun _ _ _ _ _ => (pts_one (pt_not (pt_val (pe_df DLalike GLalike hr (pa_cons (pe_ix (r := rIx K) ix_seq (pv 0) (pv 2) (fun _ _ => rfl)) (pa_cons (pe_ix (r := rIx K) ix_seq (pv 1) (pv 2) (fun _ _ => rfl)) pa_nil))))))) (fun _ _ _ _ _ => (pv 2))) pa_nil)) pe_int (nomark _)))))) pss_nil)
      (pss_one (ps_ret (pe_cmpR (op_eqAl hr) (pv 0) (pv 1) (nomark _)))))), ?_⟩
    obtain ⟨m, hm, tx, ty, _, _⟩ := ty_of hxy
    have mk : ∀ tp, H tp = none → True := fun _ _ => trivial
    refine ⟨_, rfl, _, _, _, _, _, rfl, .ty "bool", tx, kit_bool hm, _, rfl, _, _, _, _, _, rfl, .ty "bool", ty, kit_bool hm, rfl, _, rfl, ?_⟩
    rw [decide_eq_true rfl]
    refine ⟨_, rfl, by show 2 ≤ sizeLine; decide, fun tp ntp => ?_⟩
    have s1 := same_upd (o := .tup [.ty "list", .ty "tuple"]) ntp
    have htp : upd H tp (.tup [.ty "list", .ty "tuple"]) tp = some (.tup [.ty "list", .ty "tuple"]) := upd_same
    generalize upd H tp (.tup [.ty "list", .ty "tuple"]) = H1 at s1 htp ⊢
    obtain ⟨m, hm, tx, ty, hrow, hatom⟩ := ty_of (hxy.mono s1)
    refine ⟨y, tp, _, _, [.type "list", .type "tuple"], _, rfl, htp, .cons (.ty "list") (.cons (.ty "tuple") .nil), ty, kit_row hm, _, rfl, ?_⟩
    cases hr0 : (m == "list" || m == "tuple") with
    | false =>
      have q1 := q _ s1
      refine ⟨_, rfl, _, rfl, ?_⟩
      rcases hatom hr0 with ⟨d, a, b, c⟩ | h
      · refine .inl ⟨d, d, a, b, c, c, ?_⟩
        rw [eqv_refl d (SeqAt.canLay_of_shaped c)]
        exact q1
      · exact .inr (h Q q1)
    | true =>
      refine ⟨_, rfl, _, _, _, _, _, rfl, .ty "list", tx, kit_list hm, _, rfl, _, _, _, _, _, rfl, .ty "list", ty, kit_list hm, rfl, _, rfl, ?_⟩
      rw [decide_eq_true rfl]
      refine ⟨_, rfl, _, _, _, _, _, rfl, .ty "tuple", tx, kit_tuple hm, _, rfl, _, _, _, _, _, rfl, .ty "tuple", ty, kit_tuple hm, rfl, _, rfl, ?_⟩
      rw [decide_eq_true rfl]
      obtain ⟨a, b, xs, ys, ds, n', rfl, rfl, hsq, hdx, hdy, hl, rfl, hsz⟩ := hrow hr0
      have lx := dpa_len hdx
      have ly := dpa_len hdy
      have len1 : ∀ {H2 : Hp}, Same H1 H2 → LenV K (.ref a) H2 ds.length := fun s2 => by
        rcases hsq with ⟨h, _⟩ | ⟨h, _⟩
        · exact .inl ⟨_, s2.seq h, lx.symm⟩
        · exact .inr ⟨_, Same.seqT s2 h, lx.symm⟩
      have len2 : ∀ {H2 : Hp}, Same H1 H2 → LenV K (.ref b) H2 ds.length := fun s2 => by
        rcases hsq with ⟨_, h⟩ | ⟨_, h⟩
        · exact .inl ⟨_, s2.seq h, ly.symm⟩
        · exact .inr ⟨_, Same.seqT s2 h, ly.symm⟩
      refine ⟨_, rfl, _, ds.length, rfl, len1 (Same.refl _), _, rfl, _, ds.length, rfl, len2 (Same.refl _), rfl, _, rfl, ?_⟩
      rw [decide_eq_true rfl]
      refine ⟨_, rfl, _, ds.length, rfl, len2 (Same.refl _), _, rfl, by omega, by omega, fun D1 hD1 => lc_pureR (fun _ => none) (by omega) (fun _ => rfl) (fun z H2 hz s2 Q2 q2 => ?_) hD1 (fun H2 s2 h2 => ?_)⟩
      · obtain ⟨i, hi, rfl⟩ := List.mem_map.mp hz
        have hi := List.mem_range.mp hi
        have hi' : i < ds.length := by omega
        obtain ⟨vx, ex, dx⟩ := dpa_get (i := i) hdx (List.getElem?_eq_getElem hi')
        obtain ⟨vy, ey, dy⟩ := dpa_get (i := i) hdy (List.getElem?_eq_getElem hi')
        have hs' := hsz ds[i] (List.getElem_mem hi')
        have ix : ∀ {c : Addr} {zs : List V} {v : V} {Q' : VK}, (SqL K H1 c zs ∨ SqT K H1 c zs) → zs[i]? = some v → Q' v H2 → rIx K (.ref c) (.int (0 + (i : Nat))) H2 Q' := fun {c zs v Q'} h e q' => by
          rcases h with h | h
          · exact .inl ⟨c, zs, _, v, rfl, rfl, s2.seq h, at_ofG (j := i) (by omega) e, q'⟩
          · exact .inr (.inl ⟨c, zs, _, v, rfl, rfl, Same.seqT s2 h, at_ofG (j := i) (by omega) e, q'⟩)
        refine ⟨_, rfl, _, rfl, ix (zs := xs) (v := vx) (hsq.imp And.left And.left) ex ⟨_, rfl, _, rfl, ix (zs := ys) (v := vy) (hsq.imp And.right And.right) ey ?_⟩⟩
        exact ⟨vx, vy, rfl, .dat (Dp.mono s2 dx) (Dp.mono s2 dy) hs', fun H3 s3 => ⟨_, rfl, q2 H3 s3⟩⟩
      · refine ⟨_, _, rfl, .inl ⟨_, SqL.of h2, rfl⟩, rfl, ?_⟩
        rw [int0, show (rngV 0 _).filterMap (fun _ => (none : Option V)) = [] by simp]
        exact q _ (s1.trans s2)
theorem ok_alike (D : Df K mg "_law_alike" sLalike ["_law_one", "_law_other"] f fd) (T : Bl mg) : ∀ n, FnOk P w K mg base CX0 (n + 1) f fd ["_law_one", "_law_other"] (spAl K n)
  | 0 => ⟨fun _ _ _ _ h => h.elim, fun _ _ _ _ _ _ _ _ _ _ _ _ _ h => h.elim⟩
  | n + 1 => ok_alike_step D T (ok_alike D T n)
end
end WW

set_option Elab.async false
set_option linter.all false
set_option maxRecDepth 100000
set_option maxHeartbeats 4000000
namespace WW
open PySem PySem.Spec PyProof.Rows L2
/-- list(text) -/
theorem cr_listStr {X : Cx} (hc : X.calm = true) : CallR X (.type "list") (fun xs H Q => ∃ z : Str, xs = [.str z] ∧ z.length ≤ sizeLine ∧ ∀ p, H p = none → Q (.ref p) (upd H p (.lst (signs z)))) := by
  intro pins s σ H xs us Q I r h
  obtain ⟨z, rfl, hz, q⟩ := h
  obtain ⟨u, rfl, ru⟩ := vals1 r
  obtain ⟨t, rfl⟩ := ru
  refine call_list_str (I.ok.hd hc) z t (fun h' tk acc c k ho hi => ?_) hz
  have hl : (signs z).length = z.cps.size := by simp [signs]
  have rv : Vals (signs z) acc.toList := by
    refine vals_of_at (by rw [hl, Array.length_toList, hi.1]) fun j x u hx hu => ?_
    obtain ⟨cc, uu, h1, h2⟩ := hi.2 j u (by rw [← Array.getElem?_toList]; exact hu)
    unfold signs at hx
    rw [List.getElem?_map, Array.getElem?_toList, h1] at hx
    cases hx
    exact ⟨uu, h2⟩
  exact ⟨.ref s.heap.objs.size, _, I.laid (a := s.heap.objs.size) (o := .lst (signs z)) (t' := tk) k (Nat.le_refl _) ⟨by rw [hl]; exact hz, acc.toList, c, rv, by simpa using ho⟩, rfl, q _ (I.hok.fresh (Nat.le_refl _))⟩
/-- a thing that is like itself -/
inductive ThQ (K : PySem.W.Frag) (S : Hp) : V → Prop
  | dat {v : V} : Gn K 4 S v → ThQ K S v
  | dk {a : Addr} {kvs : List (Key × V)} : S a = some (.dK kvs) → (∀ p ∈ kvs, FlV p.2) → (kvs.map (·.1)).Nodup → ThQ K S (.ref a)
  | raw {a : Addr} {e : DictEntry} {ep : Nat} {k : V} : S a = some (rawO a e ep) → RelV k e.key → OddK S k → ThQ K S (.ref a)
section
variable {K : PySem.W.Frag} {S S' : Hp} {v : V} {a : Addr} {xs : List V}
theorem ThQ.mono (s : Same S S') (h : ThQ K S v) : ThQ K S' v := by
  cases h with
  | dat g => exact .dat (g.mono s)
  | dk a b c => exact .dk (s _ _ a) b c
  | raw a b c => exact .raw (s _ _ a) b (c.mono s)
theorem ThQ.al (h : ThQ K S v) : AlQ K S 4 v v := by
  cases h with
  | dat g =>
    obtain ⟨d, h1, h2⟩ := g
    exact .dat h1 h1 h2
  | dk a b c => exact .dk a a b c
  | raw a b c => exact .raw a a b c
theorem kd_dk (K : PySem.W.Frag) {S : Hp} {a : Addr} {kvs : List (Key × V)} (h : S a = some (.dK kvs)) : Kd K S (.ref a) "dict" := ⟨.base (.dK h), by decide, fun y e => by cases e⟩
theorem Gn.kd {n : Nat} (h : Gn K n S v) : ∃ m, Kd K S v m := by
  obtain ⟨d, h1, h2⟩ := h
  exact ⟨_, kd_of h1 h2⟩
theorem th_gn (h : Gn K 4 S v) (b : btw 1 1000 v = false) : ThQ K S v ∧ (∃ n, Kd K S v n) ∧ btw 1 1000 v = false := ⟨.dat h, h.kd, b⟩
theorem lw_row {zs : List Str} (h : S a = some (.lst (zs.map V.str)) ∨ S a = some (.tup (zs.map V.str))) (n : ∀ z ∈ zs, NameOk z) (l : zs.length ≤ 100) (c : ¬ (1 ≤ zs.length ∧ zs.length ≤ 10 ∧ zs.Nodup)) : LwQ K S (.ref a) none := by
  have := LwQ.row (K := K) h n l
  rw [if_neg c] at this
  exact this
theorem lw_bad (h : S a = some (.lst xs) ∨ S a = some (.tup xs)) (k : ∀ x ∈ xs, ∃ n, Kd K S x n) (l : xs.length ≤ 1000) (c : xs.all isNm = false) : LwQ K S (.ref a) none := by
  have := AnQ.row (K := K) h k l
  rw [c] at this
  exact .bad this
/-- a row that is no row of words, and so is each copy of it -/
def WdQ (K : PySem.W.Frag) (S : Hp) (v : V) : Prop := LwQ K S v none ∧ ThQ K S v ∧ ((∃ a xs, v = .ref a ∧ S a = some (.lst xs) ∧ xs.length ≤ 900 ∧ (∀ x ∈ xs, Gn K 3 S x) ∧ ∀ S' l, Same S S' → S' l = some (.lst xs) → LwQ K S' (.ref l) none) ∨ ∃ n, Kd K S v n ∧ n ≠ "list")
theorem WdQ.mono (s : Same S S') (h : WdQ K S v) : WdQ K S' v := by
  obtain ⟨h1, h2, h3⟩ := h
  refine ⟨h1.mono s, h2.mono s, ?_⟩
  rcases h3 with ⟨a, xs, e, ha, l, g, k⟩ | ⟨n, k, e⟩
  · exact .inl ⟨a, xs, e, s _ _ ha, l, fun x hx => (g x hx).mono s, fun S2 l s2 h => k S2 l (s.trans s2) h⟩
  · exact .inr ⟨n, k.mono s, e⟩
theorem wq_bad (h : S a = some (.lst xs)) (k : ∀ x ∈ xs, ∃ n, Kd K S x n) (l : xs.length ≤ 900) (c : xs.all isNm = false) (g : ∀ x ∈ xs, Gn K 3 S x) : WdQ K S (.ref a) :=
  ⟨lw_bad (.inl h) k (by omega) c, .dat (gn_lst h g l), .inl ⟨a, xs, rfl, h, l, g, fun S' l' s' h' => lw_bad (.inl h') (fun x hx => let ⟨n, z⟩ := k x hx; ⟨n, z.mono s'⟩) (by omega) c⟩⟩
theorem wq_row {zs : List Str} (h : S a = some (.lst (zs.map V.str))) (n : ∀ z ∈ zs, NameOk z) (l : zs.length ≤ 100) (c : ¬ (1 ≤ zs.length ∧ zs.length ≤ 10 ∧ zs.Nodup)) : WdQ K S (.ref a) := by
  have g : ∀ x ∈ zs.map V.str, Gn K 3 S x := fun x hx => by
    obtain ⟨z, hz, rfl⟩ := List.mem_map.mp hx
    exact gn_str (name_sok (n z hz)) (Nat.le_trans (n z hz).2.1 (by decide))
  have l9 : (zs.map V.str).length ≤ 900 := by rw [List.length_map]; omega
  exact ⟨lw_row (.inl h) n l c, .dat (gn_lst h g l9), .inl ⟨a, _, rfl, h, l9, g, fun S' l' s' h' => lw_row (.inl h') n l c⟩⟩
theorem wq_oth {n : String} (k : Kd K S v n) (e : n ≠ "list") (l : LwQ K S v none) (g : ThQ K S v) : WdQ K S v := ⟨l, g, .inr ⟨n, k, e⟩⟩
/-- a thing that is no sights, and so is each copy of it -/
def SiQ (K : PySem.W.Frag) (S : Hp) (v : V) : Prop := SgQ K S v false ∧ ThQ K S v ∧ ((∃ a kvs, v = .ref a ∧ S a = some (.dK kvs) ∧ (∀ p ∈ kvs, FlV p.2) ∧ (kvs.map (·.1)).Nodup ∧ ∀ S' l, S' l = some (.dK kvs) → SgQ K S' (.ref l) false) ∨
  (∃ a e ep k, v = .ref a ∧ S a = some (rawO a e ep) ∧ RelV k e.key ∧ OddK S k) ∨ ∃ n, Kd K S v n ∧ n ≠ "dict")
theorem SiQ.mono (s : Same S S') (h : SiQ K S v) : SiQ K S' v := by
  obtain ⟨h1, h2, h3⟩ := h
  refine ⟨h1.mono s, h2.mono s, ?_⟩
  rcases h3 with ⟨a, kvs, e, ha, l, g, k⟩ | ⟨a, e, ep, k, ev, ha, r, o⟩ | ⟨n, k, e⟩
  · exact .inl ⟨a, kvs, e, s _ _ ha, l, g, k⟩
  · exact .inr (.inl ⟨a, e, ep, k, ev, s _ _ ha, r, o.mono s⟩)
  · exact .inr (.inr ⟨n, k.mono s, e⟩)
theorem sg_raw {e : DictEntry} {ep : Nat} {k : V} (h : S a = some (rawO a e ep)) (r : RelV k e.key) (o : OddK S k) : SiQ K S (.ref a) := ⟨.raw h r o, .raw h r o, .inr (.inl ⟨a, e, ep, k, rfl, h, r, o⟩)⟩
theorem sg_oth {n : String} (k : Kd K S v n) (e : n ≠ "dict") (g : ThQ K S v) : SiQ K S v := ⟨.other k e, g, .inr (.inr ⟨n, k, e⟩)⟩
theorem sg_bad {kvs : List (Key × V)} (h : S a = some (.dK kvs)) (f : ∀ p ∈ kvs, FlV p.2) (z : ∀ p ∈ kvs, ∀ z, p.1 = .inr z → z.length ≤ sizeLine) (nd : (kvs.map (·.1)).Nodup) (l : kvs.length ≤ 1000)
    (c : (decide (1 ≤ kvs.length) && decide (kvs.length ≤ 10) && kvs.all fun p => isNm (kV p.1) && isNm p.2) = false) : SiQ K S (.ref a) := by
  have all : ∀ {S' : Hp} {l' : Addr}, S' l' = some (.dK kvs) → SgQ K S' (.ref l') false := fun {S' l'} h' => by
    have := SgQ.dk (K := K) h' f z nd l
    rw [c] at this
    exact this
  exact ⟨all h, .dk h f nd, .inl ⟨a, kvs, rfl, h, f, nd, fun S' l' h' => all h'⟩⟩
end
section
variable {P : Program} {w : World} {K : PySem.W.Frag} {mg : Str → Option Value} {base : Heap} {f fB : Addr} {fd fdB : FuncData}
abbrev sLbad_head : Stmt := topS 30
abbrev nLbad_head : List Str := ["_law_pool_here"]
theorem scLbad_head : FnScope nLbad_head ["_law_pool_here"] (defScope sLbad_head) := ⟨rfl, rfl, rfl, by decide +kernel, rfl, by decide +kernel, by decide +kernel⟩
def spBadHead (K : PySem.W.Frag) : Sp := fun vs H Q _ => ∃ (p : Addr) (S : Hp), vs = [.ref p] ∧ Pool S H p ∧ ∀ (v : V) (S' H' : Hp), Gn K 4 S' v → isNm v = false → Pool S' H' p → Gr p S H S' H' → Q v H'
theorem ok_bad_head (D : Df K mg "_law_bad_head" sLbad_head ["_law_pool_here"] f fd) (DLpick : Df K mg "_law_pick" sLpick ["_law_pool_here", "_law_items"] fB fdB) (GLpick : FnOk P w K mg base CX0 2 fB fdB ["_law_pool_here", "_law_items"] spPick) (T : Bl mg) : FnOk P w K mg base CX0 3 f fd ["_law_pool_here"] (spBadHead K) := by
  refine D.fn.ok scLbad_head (fun vs H Q E h => ?_) (fun cdv A outer s H vs Q E hr h => ?_)
  · obtain ⟨p, S, rfl, _⟩ := h
    rfl
  · obtain ⟨p, S0, rfl, P0, q⟩ := h
    refine ⟨_, (pss_one (ps_ret (pe_df DLpick GLpick (hr.mono (by decide)) (pa_cons (pv 0) (pa_cons (pe_lst (pa_cons pe_non (pa_cons pe_int (pa_cons pe_str (pa_cons pe_str (pa_cons pe_str (pa_cons pe_str (pa_cons (pe_tup (pa_cons pe_str pa_nil)) (pa_cons (pe_lst (pa_cons pe_str pa_nil)) (pa_cons pe_bl (pa_cons pe_str (pa_cons pe_str (pa_cons (pe_op op_pow pe_int pe_int) pa_nil))))))))))))) pa_nil))))), ?_⟩
    have W0 : Wd p S0 H S0 H := ⟨P0, Gr.refl⟩
    refine ⟨_, rfl, by show 1 ≤ sizeLine; decide, fun e1 he1 => ?_⟩
    obtain ⟨S1, W1, s1, ke1⟩ := W0.new he1 (.tup [.str "a"])
    refine ⟨by show 1 ≤ sizeLine; decide, fun e2 he2 => ?_⟩
    obtain ⟨S2, W2, s2, ke2⟩ := W1.new he2 (.lst [.str "a"])
    refine ⟨_, _, rfl, rfl, ⟨by decide, by decide, by decide⟩, by show 12 ≤ sizeLine; decide, fun l hl => ?_⟩
    obtain ⟨S3, W3, s3, kl⟩ := W2.new hl (.lst [.non, .int 0, .str "", .str "A", .str "a b", .str "abcdefghijk", .ref e1, .ref e2, .bl true, .str "a-b", .str "a1", .int ((10 : Int) ^ (30 : Int).toNat)])
    have all : ∀ v ∈ ([.non, .int 0, .str "", .str "A", .str "a b", .str "abcdefghijk", .ref e1, .ref e2, .bl true, .str "a-b", .str "a1", .int ((10 : Int) ^ (30 : Int).toNat)] : List V), Gn K 4 S3 v ∧ isNm v = false := fun v hv => by
      simp only [List.mem_cons, List.not_mem_nil, or_false] at hv
      rcases hv with rfl | rfl | rfl | rfl | rfl | rfl | rfl | rfl | rfl | rfl | rfl | rfl
      · exact ⟨gn_non, rfl⟩
      · exact ⟨gn_int, rfl⟩
      · exact ⟨gn_str (by decide +kernel) (by decide +kernel), by decide +kernel⟩
      · exact ⟨gn_str (by decide +kernel) (by decide +kernel), by decide +kernel⟩
      · exact ⟨gn_str (by decide +kernel) (by decide +kernel), by decide +kernel⟩
      · exact ⟨gn_str (by decide +kernel) (by decide +kernel), by decide +kernel⟩
      · exact ⟨gn_le (m := 1) (gn_tup ((s2.trans s3) _ _ ke1) (fun u hu => by rw [List.mem_singleton.mp hu]; exact gn_str (by decide +kernel) (by decide +kernel)) (by show 1 ≤ 900; decide)) (by decide), rfl⟩
      · exact ⟨gn_le (m := 1) (gn_lst (s3 _ _ ke2) (fun u hu => by rw [List.mem_singleton.mp hu]; exact gn_str (by decide +kernel) (by decide +kernel)) (by show 1 ≤ 900; decide)) (by decide), rfl⟩
      · exact ⟨gn_bl, rfl⟩
      · exact ⟨gn_str (by decide +kernel) (by decide +kernel), by decide +kernel⟩
      · exact ⟨gn_str (by decide +kernel) (by decide +kernel), by decide +kernel⟩
      · exact ⟨gn_int, rfl⟩
    refine ⟨p, l, S3, _, rfl, W3.pl, W3.ss _ _ kl, fun z => W2.pl.has (by rw [← z]; exact hl), by show 0 < 12; decide, by show 12 < 1000; decide, fun i v S' H' hv P' g' => ?_⟩
    obtain ⟨WL, sL⟩ := W3.then_ P' g'
    have hv := all v (List.mem_of_getElem? hv)
    exact q v S' H' (hv.1.mono sL) hv.2 WL.pl WL.gr
abbrev sLbad_post : Stmt := topS 31
abbrev nLbad_post : List Str := ["_law_pool_here"]
theorem scLbad_post : FnScope nLbad_post ["_law_pool_here"] (defScope sLbad_post) := ⟨rfl, rfl, rfl, by decide +kernel, rfl, by decide +kernel, by decide +kernel⟩
def spBadPost (K : PySem.W.Frag) : Sp := fun vs H Q _ => ∃ (p : Addr) (S : Hp), vs = [.ref p] ∧ Pool S H p ∧ ∀ (v : V) (S' H' : Hp), Gn K 4 S' v → btw 0 1 v = false → Pool S' H' p → Gr p S H S' H' → Q v H'
theorem ok_bad_post (D : Df K mg "_law_bad_post" sLbad_post ["_law_pool_here"] f fd) (DLpick : Df K mg "_law_pick" sLpick ["_law_pool_here", "_law_items"] fB fdB) (GLpick : FnOk P w K mg base CX0 2 fB fdB ["_law_pool_here", "_law_items"] spPick) (T : Bl mg) : FnOk P w K mg base CX0 3 f fd ["_law_pool_here"] (spBadPost K) := by
  refine D.fn.ok scLbad_post (fun vs H Q E h => ?_) (fun cdv A outer s H vs Q E hr h => ?_)
  · obtain ⟨p, S, rfl, _⟩ := h
    rfl
  · obtain ⟨p, S0, rfl, P0, q⟩ := h
    refine ⟨_, (pss_one (ps_ret (pe_df DLpick GLpick (hr.mono (by decide)) (pa_cons (pv 0) (pa_cons (pe_lst (pa_cons pe_int (pa_cons (pe_un un_neg pe_int) (pa_cons pe_bl (pa_cons pe_bl (pa_cons pe_non (pa_cons pe_str (pa_cons (pe_tup (pa_cons pe_int pa_nil)) (pa_cons (pe_op op_pow pe_int pe_int) (pa_cons (pe_lst pa_nil) (pa_cons pe_str pa_nil))))))))))) pa_nil))))), ?_⟩
    have W0 : Wd p S0 H S0 H := ⟨P0, Gr.refl⟩
    refine ⟨_, rfl, _, rfl, by show 1 ≤ sizeLine; decide, fun e1 he1 => ?_⟩
    obtain ⟨S1, W1, s1, ke1⟩ := W0.new he1 (.tup [.int 0])
    refine ⟨_, _, rfl, rfl, ⟨by decide, by decide, by decide⟩, by show 0 ≤ sizeLine; decide, fun e2 he2 => ?_⟩
    obtain ⟨S2, W2, s2, ke2⟩ := W1.new he2 (.lst [])
    refine ⟨by show 10 ≤ sizeLine; decide, fun l hl => ?_⟩
    obtain ⟨S3, W3, s3, kl⟩ := W2.new hl (.lst [.int 2, .int (-1), .bl true, .bl false, .non, .str "0", .ref e1, .int ((10 : Int) ^ (30 : Int).toNat), .ref e2, .str "both"])
    have all : ∀ v ∈ ([.int 2, .int (-1), .bl true, .bl false, .non, .str "0", .ref e1, .int ((10 : Int) ^ (30 : Int).toNat), .ref e2, .str "both"] : List V), Gn K 4 S3 v ∧ btw 0 1 v = false := fun v hv => by
      simp only [List.mem_cons, List.not_mem_nil, or_false] at hv
      rcases hv with rfl | rfl | rfl | rfl | rfl | rfl | rfl | rfl | rfl | rfl
      · exact ⟨gn_int, by decide⟩
      · exact ⟨gn_int, by decide⟩
      · exact ⟨gn_bl, rfl⟩
      · exact ⟨gn_bl, rfl⟩
      · exact ⟨gn_non, rfl⟩
      · exact ⟨gn_str (by decide +kernel) (by decide +kernel), rfl⟩
      · exact ⟨gn_le (m := 1) (gn_tup ((s2.trans s3) _ _ ke1) (fun u hu => by rw [List.mem_singleton.mp hu]; exact gn_int) (by show 1 ≤ 900; decide)) (by decide), rfl⟩
      · exact ⟨gn_int, by decide +kernel⟩
      · exact ⟨gn_le (m := 1) (gn_lst (s3 _ _ ke2) (fun u hu => by simp at hu) (by show 0 ≤ 900; decide)) (by decide), rfl⟩
      · exact ⟨gn_str (by decide +kernel) (by decide +kernel), rfl⟩
    refine ⟨p, l, S3, _, rfl, W3.pl, W3.ss _ _ kl, fun z => W2.pl.has (by rw [← z]; exact hl), by show 0 < 10; decide, by show 10 < 1000; decide, fun i v S' H' hv P' g' => ?_⟩
    obtain ⟨WL, sL⟩ := W3.then_ P' g'
    have hv := all v (List.mem_of_getElem? hv)
    exact q v S' H' (hv.1.mono sL) hv.2 WL.pl WL.gr
abbrev sLbad_cost : Stmt := topS 32
abbrev nLbad_cost : List Str := ["_law_pool_here"]
theorem scLbad_cost : FnScope nLbad_cost ["_law_pool_here"] (defScope sLbad_cost) := ⟨rfl, rfl, rfl, by decide +kernel, rfl, by decide +kernel, by decide +kernel⟩
def spBadCost (K : PySem.W.Frag) : Sp := fun vs H Q _ => ∃ (p : Addr) (S : Hp), vs = [.ref p] ∧ Pool S H p ∧ ∀ (v : V) (S' H' : Hp), ThQ K S' v → (∃ n, Kd K S' v n) → btw 1 1000 v = false → Pool S' H' p → Gr p S H S' H' → Q v H'
theorem ok_bad_cost (D : Df K mg "_law_bad_cost" sLbad_cost ["_law_pool_here"] f fd) (DLpick : Df K mg "_law_pick" sLpick ["_law_pool_here", "_law_items"] fB fdB) (GLpick : FnOk P w K mg base CX0 2 fB fdB ["_law_pool_here", "_law_items"] spPick) (T : Bl mg) : FnOk P w K mg base CX0 3 f fd ["_law_pool_here"] (spBadCost K) := by
  refine D.fn.ok scLbad_cost (fun vs H Q E h => ?_) (fun cdv A outer s H vs Q E hr h => ?_)
  · obtain ⟨p, S, rfl, _⟩ := h
    rfl
  · obtain ⟨p, S0, rfl, P0, q⟩ := h
    refine ⟨_, (pss_one (ps_ret (pe_df DLpick GLpick (hr.mono (by decide)) (pa_cons (pv 0) (pa_cons (pe_lst (pa_cons pe_int (pa_cons pe_int (pa_cons pe_bl (pa_cons pe_non (pa_cons pe_str (pa_cons (pe_un un_neg pe_int) (pa_cons (pe_op op_pow pe_int pe_int) (pa_cons (pe_tup (pa_cons pe_int pa_nil)) (pa_cons (pe_lst (pa_cons pe_int pa_nil)) (pa_cons pe_dnewK pa_nil))))))))))) pa_nil))))), ?_⟩
    have W0 : Wd p S0 H S0 H := ⟨P0, Gr.refl⟩
    refine ⟨_, rfl, _, rfl, _, _, rfl, rfl, ⟨by decide, by decide, by decide⟩, by show 1 ≤ sizeLine; decide, fun e1 he1 => ?_⟩
    obtain ⟨S1, W1, s1, ke1⟩ := W0.new he1 (.tup [.int 1])
    refine ⟨by show 1 ≤ sizeLine; decide, fun e2 he2 => ?_⟩
    obtain ⟨S2, W2, s2, ke2⟩ := W1.new he2 (.lst [.int 1])
    refine fun e3 he3 => ?_
    obtain ⟨S3, W3, s3, ke3⟩ := W2.new he3 (.dK [])
    refine ⟨by show 10 ≤ sizeLine; decide, fun l hl => ?_⟩
    obtain ⟨S4, W4, s4, kl⟩ := W3.new hl (.lst [.int 0, .int 1001, .bl true, .non, .str "1", .int (-5), .int ((10 : Int) ^ (30 : Int).toNat), .ref e1, .ref e2, .ref e3])
    have all : ∀ v ∈ ([.int 0, .int 1001, .bl true, .non, .str "1", .int (-5), .int ((10 : Int) ^ (30 : Int).toNat), .ref e1, .ref e2, .ref e3] : List V), ThQ K S4 v ∧ (∃ n, Kd K S4 v n) ∧ btw 1 1000 v = false := fun v hv => by
      simp only [List.mem_cons, List.not_mem_nil, or_false] at hv
      rcases hv with rfl | rfl | rfl | rfl | rfl | rfl | rfl | rfl | rfl | rfl
      · exact th_gn (gn_int) (by decide)
      · exact th_gn (gn_int) (by decide)
      · exact th_gn (gn_bl) (rfl)
      · exact th_gn (gn_non) (rfl)
      · exact th_gn (gn_str (by decide +kernel) (by decide +kernel)) (rfl)
      · exact th_gn (gn_int) (by decide)
      · exact th_gn (gn_int) (by decide +kernel)
      · exact th_gn (gn_le (m := 1) (gn_tup ((s2.trans (s3.trans s4)) _ _ ke1) (fun u hu => by rw [List.mem_singleton.mp hu]; exact gn_int) (by show 1 ≤ 900; decide)) (by decide)) (rfl)
      · exact th_gn (gn_le (m := 1) (gn_lst ((s3.trans s4) _ _ ke2) (fun u hu => by rw [List.mem_singleton.mp hu]; exact gn_int) (by show 1 ≤ 900; decide)) (by decide)) (rfl)
      · exact ⟨.dk (s4 _ _ ke3) (fun p hp => by simp at hp) (by simp), ⟨_, kd_dk K (s4 _ _ ke3)⟩, rfl⟩
    refine ⟨p, l, S4, _, rfl, W4.pl, W4.ss _ _ kl, fun z => W3.pl.has (by rw [← z]; exact hl), by show 0 < 10; decide, by show 10 < 1000; decide, fun i v S' H' hv P' g' => ?_⟩
    obtain ⟨WL, sL⟩ := W4.then_ P' g'
    have hv := all v (List.mem_of_getElem? hv)
    exact q v S' H' (hv.1.mono sL) (let ⟨n, z⟩ := hv.2.1; ⟨n, z.mono sL⟩) hv.2.2 WL.pl WL.gr
end
end WW

set_option Elab.async false
set_option linter.all false
set_option maxRecDepth 100000
set_option maxHeartbeats 4000000
namespace WW
open PySem PySem.Spec PyProof.Rows L2
theorem upd3 {H : Hp} {p t : Addr} {a b c : HO} (h : t ≠ p) : upd (upd (upd H p a) t b) p c = upd (upd H t b) p c := by
  funext x
  by_cases e : x = p
  · rw [e, upd_same, upd_same]
  · rw [upd_ne e, upd_ne e]
    by_cases e2 : x = t
    · rw [e2, upd_same, upd_same]
    · rw [upd_ne e2, upd_ne e2, upd_ne e]
section
variable {P : Program} {w : World} {K : PySem.W.Frag} {mg : Str → Option Value} {base : Heap} {f fB : Addr} {fd fdB : FuncData}
abbrev sLbad_words : Stmt := topS 34
abbrev nLbad_words : List Str := ["_law_pool_here", "_law_words"]
theorem scLbad_words : FnScope nLbad_words ["_law_pool_here", "_law_words"] (defScope sLbad_words) := ⟨rfl, rfl, rfl, by decide +kernel, rfl, by decide +kernel, by decide +kernel⟩
def spBadWords (K : PySem.W.Frag) : Sp := fun vs H Q _ => ∃ (p : Addr) (S : Hp) (a : Addr) (zs : List Str), vs = [.ref p, .ref a] ∧ Pool S H p ∧ S a = some (.lst (zs.map V.str)) ∧ (∀ z ∈ zs, NameOk z) ∧ 1 ≤ zs.length ∧ ∀ (v : V) (S' H' : Hp), WdQ K S' v → Pool S' H' p → Gr p S H S' H' → Q v H'
theorem ok_bad_words (D : Df K mg "_law_bad_words" sLbad_words ["_law_pool_here", "_law_words"] f fd) (DLpick : Df K mg "_law_pick" sLpick ["_law_pool_here", "_law_items"] fB fdB) (GLpick : FnOk P w K mg base CX0 2 fB fdB ["_law_pool_here", "_law_items"] spPick) (T : Bl mg) : FnOk P w K mg base CX0 3 f fd ["_law_pool_here", "_law_words"] (spBadWords K) := by
  refine D.fn.ok scLbad_words (fun vs H Q E h => ?_) (fun cdv A outer s H vs Q E hr h => ?_)
  · obtain ⟨p, S, a, zs, rfl, _⟩ := h
    rfl
  · obtain ⟨p, S0, a, zs, rfl, P0, ha, hz, hz1, q⟩ := h
    refine ⟨_, (pss_one (ps_ret (pe_df DLpick GLpick (hr.mono (by decide)) (pa_cons (pv 0) (pa_cons (pe_lst (pa_cons (pe_lst pa_nil) (pa_cons (pe_tup pa_nil) (pa_cons pe_non (pa_cons pe_str (pa_cons (pe_callTy (cr_listStr rfl) (by rfl) T.list (by decide +kernel) (pa_cons pe_str pa_nil)) (pa_cons (pe_lst (pa_cons pe_str pa_nil)) (pa_cons (pe_lst (pa_cons pe_int pa_nil)) (pa_cons (pe_lst (pa_cons pe_str (pa_cons pe_non pa_nil))) (pa_cons (pe_lst (pa_cons (pe_ix ix_list (pv 1) pe_int (fun _ _ => rfl)) (pa_cons (pe_ix ix_list (pv 1) pe_int (fun _ _ => rfl)) pa_nil))) (pa_cons (pe_tup (pa_cons pe_str (pa_cons pe_str (pa_cons pe_str pa_nil)))) (pa_cons (pe_disp (pps_cons pe_str pe_str pps_nil) rfl rfl (by simp) (by decide)) (pa_cons (pe_lst (pa_cons pe_str (pa_cons (pe_tup (pa_cons pe_str pa_nil)) pa_nil))) (pa_cons (pe_lst (pa_cons pe_str pa_nil)) (pa_cons (pe_lst (pa_cons pe_str pa_nil)) (pa_cons pe_bl (pa_cons pe_int (pa_cons (pe_lst (pa_cons pe_bl pa_nil)) (pa_cons (pe_lst (pa_cons pe_str (pa_cons pe_str pa_nil))) pa_nil))))))))))))))))))) pa_nil))))), ?_⟩
    have W0 : Wd p S0 H S0 H := ⟨P0, Gr.refl⟩
    obtain ⟨w0, zr, rfl⟩ : ∃ w0 zr, zs = w0 :: zr := by
      cases zs with
      | nil => simp at hz1
      | cons x r => exact ⟨x, r, rfl⟩
    have hw0 := hz w0 (by simp)
    refine ⟨_, rfl, by show 0 ≤ sizeLine; decide, fun e1 he1 => ?_⟩
    obtain ⟨S1, W1, s1, ke1⟩ := W0.new he1 (.lst [])
    refine ⟨by show 0 ≤ sizeLine; decide, fun e2 he2 => ?_⟩
    obtain ⟨S2, W2, s2, ke2⟩ := W1.new he2 (.tup [])
    refine ⟨_, rfl, by decide, fun e3 he3 => ?_⟩
    obtain ⟨S3, W3, s3, ke3⟩ := W2.new he3 (.lst (signs "abcdefghijk"))
    refine ⟨by show 1 ≤ sizeLine; decide, fun e4 he4 => ?_⟩
    obtain ⟨S4, W4, s4, ke4⟩ := W3.new he4 (.lst [.str "A"])
    refine ⟨by show 1 ≤ sizeLine; decide, fun e5 he5 => ?_⟩
    obtain ⟨S5, W5, s5, ke5⟩ := W4.new he5 (.lst [.int 0])
    refine ⟨by show 2 ≤ sizeLine; decide, fun e6 he6 => ?_⟩
    obtain ⟨S6, W6, s6, ke6⟩ := W5.new he6 (.lst [.str "a", .non])
    refine ⟨_, rfl, a, _, 0, .str w0, rfl, rfl, SqL.of (W6.ss _ _ ((s1.trans (s2.trans (s3.trans (s4.trans (s5.trans s6))))) _ _ ha)), atI_nat (j := 0) rfl, _, rfl, a, _, 0, .str w0, rfl, rfl, SqL.of (W6.ss _ _ ((s1.trans (s2.trans (s3.trans (s4.trans (s5.trans s6))))) _ _ ha)), atI_nat (j := 0) rfl, by show 2 ≤ sizeLine; decide, fun e7 he7 => ?_⟩
    obtain ⟨S7, W7, s7, ke7⟩ := W6.new he7 (.lst [.str w0, .str w0])
    refine ⟨by show 3 ≤ sizeLine; decide, fun e8 he8 => ?_⟩
    obtain ⟨S8, W8, s8, ke8⟩ := W7.new he8 (.tup [.str "a", .str "b", .str "a"])
    refine fun e9 he9 => ⟨upd_same, [(.inr "a", .str "a")], rfl, by decide, ?_⟩
    rw [upd_upd]
    obtain ⟨S9, W9, s9, ke9⟩ := W8.new he9 (.dK (mergeK [] [(.inr "a", .str "a")]))
    have ke9 : S9 e9 = some (HO.dK [(.inr "a", .str "a")]) := ke9
    refine ⟨by show 1 ≤ sizeLine; decide, fun e10 he10 => ?_⟩
    obtain ⟨S10, W10, s10, ke10⟩ := W9.new he10 (.tup [.str "b"])
    have g10 : Gn K 1 S10 (.ref e10) := gn_tup ke10 (fun u hu => by rw [List.mem_singleton.mp hu]; exact gn_str (by decide +kernel) (by decide +kernel)) (by show 1 ≤ 900; decide)
    refine ⟨by show 2 ≤ sizeLine; decide, fun e11 he11 => ?_⟩
    obtain ⟨S11, W11, s11, ke11⟩ := W10.new he11 (.lst [.str "a", .ref e10])
    refine ⟨by show 1 ≤ sizeLine; decide, fun e12 he12 => ?_⟩
    obtain ⟨S12, W12, s12, ke12⟩ := W11.new he12 (.lst [.str ""])
    refine ⟨by show 1 ≤ sizeLine; decide, fun e13 he13 => ?_⟩
    obtain ⟨S13, W13, s13, ke13⟩ := W12.new he13 (.lst [.str "abcdefghijk"])
    refine ⟨by show 1 ≤ sizeLine; decide, fun e14 he14 => ?_⟩
    obtain ⟨S14, W14, s14, ke14⟩ := W13.new he14 (.lst [.bl true])
    refine ⟨by show 2 ≤ sizeLine; decide, fun e15 he15 => ?_⟩
    obtain ⟨S15, W15, s15, ke15⟩ := W14.new he15 (.lst [.str "a", .str "a b"])
    have e3z : (signs "abcdefghijk") = ((("abcdefghijk" : Str).cps.toList.map fun c => (⟨#[c]⟩ : Str)).map V.str) := by unfold signs; rw [List.map_map]; rfl
    refine ⟨by show 18 ≤ sizeLine; decide, fun l hl => ?_⟩
    obtain ⟨S16, W16, s16, kl⟩ := W15.new hl (.lst [.ref e1, .ref e2, .non, .str "a", .ref e3, .ref e4, .ref e5, .ref e6, .ref e7, .ref e8, .ref e9, .ref e11, .ref e12, .ref e13, .bl true, .int 0, .ref e14, .ref e15])
    have all : ∀ v ∈ ([.ref e1, .ref e2, .non, .str "a", .ref e3, .ref e4, .ref e5, .ref e6, .ref e7, .ref e8, .ref e9, .ref e11, .ref e12, .ref e13, .bl true, .int 0, .ref e14, .ref e15] : List V), WdQ K S16 v := fun v hv => by
      simp only [List.mem_cons, List.not_mem_nil, or_false] at hv
      rcases hv with rfl | rfl | rfl | rfl | rfl | rfl | rfl | rfl | rfl | rfl | rfl | rfl | rfl | rfl | rfl | rfl | rfl | rfl
      · exact wq_row (zs := []) ((s2.trans (s3.trans (s4.trans (s5.trans (s6.trans (s7.trans (s8.trans (s9.trans (s10.trans (s11.trans (s12.trans (s13.trans (s14.trans (s15.trans s16)))))))))))))) _ _ ke1) (fun z hz => by simp at hz) (by show 0 ≤ 100; decide) (fun h => by simp at h)
      · exact wq_oth (kd_tup K ((s3.trans (s4.trans (s5.trans (s6.trans (s7.trans (s8.trans (s9.trans (s10.trans (s11.trans (s12.trans (s13.trans (s14.trans (s15.trans s16))))))))))))) _ _ ke2)) (by decide) (lw_row (zs := []) (.inr ((s3.trans (s4.trans (s5.trans (s6.trans (s7.trans (s8.trans (s9.trans (s10.trans (s11.trans (s12.trans (s13.trans (s14.trans (s15.trans s16))))))))))))) _ _ ke2)) (fun z hz => by simp at hz) (by show 0 ≤ 100; decide) (fun h => by simp at h)) (.dat (gn_le (m := 1) (gn_tup ((s3.trans (s4.trans (s5.trans (s6.trans (s7.trans (s8.trans (s9.trans (s10.trans (s11.trans (s12.trans (s13.trans (s14.trans (s15.trans s16))))))))))))) _ _ ke2) (fun u hu => by simp at hu) (by show 0 ≤ 900; decide)) (by decide)))
      · exact wq_oth (kd_non K _) (by decide) (.bad (.other (kd_non K _) (by decide) (by decide))) (.dat (gn_non))
      · exact wq_oth (kd_str K _ (by decide)) (by decide) (.bad (.other (kd_str K _ (by decide)) (by decide) (by decide))) (.dat (gn_str (by decide +kernel) (by decide +kernel)))
      · exact wq_row (zs := ("abcdefghijk" : Str).cps.toList.map fun c => (⟨#[c]⟩ : Str)) (by rw [← e3z]; exact ((s4.trans (s5.trans (s6.trans (s7.trans (s8.trans (s9.trans (s10.trans (s11.trans (s12.trans (s13.trans (s14.trans (s15.trans s16)))))))))))) _ _ ke3)) (fun z hz => (nmB_iff z).mp ((by decide +kernel : ∀ z ∈ (("abcdefghijk" : Str).cps.toList.map fun c => (⟨#[c]⟩ : Str)), nmB z = true) z hz)) (by decide +kernel) (by decide +kernel)
      · exact wq_bad ((s5.trans (s6.trans (s7.trans (s8.trans (s9.trans (s10.trans (s11.trans (s12.trans (s13.trans (s14.trans (s15.trans s16))))))))))) _ _ ke4) (fun u hu => by
        simp only [List.mem_cons, List.not_mem_nil, or_false] at hu
        rcases hu with rfl
        · exact ⟨_, kd_str K _ (by decide)⟩) (by show 1 ≤ 900; decide) (by decide +kernel) (fun u hu => by
        simp only [List.mem_cons, List.not_mem_nil, or_false] at hu
        rcases hu with rfl
        · exact gn_str (by decide +kernel) (by decide +kernel))
      · exact wq_bad ((s6.trans (s7.trans (s8.trans (s9.trans (s10.trans (s11.trans (s12.trans (s13.trans (s14.trans (s15.trans s16)))))))))) _ _ ke5) (fun u hu => by
        simp only [List.mem_cons, List.not_mem_nil, or_false] at hu
        rcases hu with rfl
        · exact ⟨_, kd_int K _ _⟩) (by show 1 ≤ 900; decide) (by decide +kernel) (fun u hu => by
        simp only [List.mem_cons, List.not_mem_nil, or_false] at hu
        rcases hu with rfl
        · exact gn_int)
      · exact wq_bad ((s7.trans (s8.trans (s9.trans (s10.trans (s11.trans (s12.trans (s13.trans (s14.trans (s15.trans s16))))))))) _ _ ke6) (fun u hu => by
        simp only [List.mem_cons, List.not_mem_nil, or_false] at hu
        rcases hu with rfl | rfl
        · exact ⟨_, kd_str K _ (by decide)⟩
        · exact ⟨_, kd_non K _⟩) (by show 2 ≤ 900; decide) (by decide +kernel) (fun u hu => by
        simp only [List.mem_cons, List.not_mem_nil, or_false] at hu
        rcases hu with rfl | rfl
        · exact gn_str (by decide +kernel) (by decide +kernel)
        · exact gn_non)
      · exact wq_row (zs := [w0, w0]) ((s8.trans (s9.trans (s10.trans (s11.trans (s12.trans (s13.trans (s14.trans (s15.trans s16)))))))) _ _ ke7) (fun z hz => by simp at hz; rw [hz]; exact hw0) (by show 2 ≤ 100; decide) (fun h => by simp at h)
      · exact wq_oth (kd_tup K ((s9.trans (s10.trans (s11.trans (s12.trans (s13.trans (s14.trans (s15.trans s16))))))) _ _ ke8)) (by decide) (lw_row (zs := ["a", "b", "a"]) (.inr ((s9.trans (s10.trans (s11.trans (s12.trans (s13.trans (s14.trans (s15.trans s16))))))) _ _ ke8)) (fun z hz => (nmB_iff z).mp ((by decide +kernel : ∀ z ∈ (["a", "b", "a"] : List Str), nmB z = true) z hz)) (by show 3 ≤ 100; decide) (by decide +kernel)) (.dat (gn_le (m := 1) (gn_tup ((s9.trans (s10.trans (s11.trans (s12.trans (s13.trans (s14.trans (s15.trans s16))))))) _ _ ke8) (fun u hu => by
        simp only [List.mem_cons, List.not_mem_nil, or_false] at hu
        rcases hu with rfl | rfl | rfl
        · exact gn_str (by decide +kernel) (by decide +kernel)
        · exact gn_str (by decide +kernel) (by decide +kernel)
        · exact gn_str (by decide +kernel) (by decide +kernel)) (by show 3 ≤ 900; decide)) (by decide)))
      · exact wq_oth (kd_dk K ((s10.trans (s11.trans (s12.trans (s13.trans (s14.trans (s15.trans s16)))))) _ _ ke9)) (by decide) (.bad (.other (kd_dk K ((s10.trans (s11.trans (s12.trans (s13.trans (s14.trans (s15.trans s16)))))) _ _ ke9)) (by decide) (by decide))) (.dk ((s10.trans (s11.trans (s12.trans (s13.trans (s14.trans (s15.trans s16)))))) _ _ ke9) (fun p hp => by rw [List.mem_singleton.mp hp]; exact .inr ⟨_, rfl, by decide⟩) (by decide +kernel))
      · exact wq_bad ((s12.trans (s13.trans (s14.trans (s15.trans s16)))) _ _ ke11) (fun u hu => by
        simp only [List.mem_cons, List.not_mem_nil, or_false] at hu
        rcases hu with rfl | rfl
        · exact ⟨_, kd_str K _ (by decide)⟩
        · exact ⟨_, kd_tup K ((s11.trans (s12.trans (s13.trans (s14.trans (s15.trans s16))))) _ _ ke10)⟩) (by show 2 ≤ 900; decide) (by show (isNm _ && (false && true)) = false; simp) (fun u hu => by
        simp only [List.mem_cons, List.not_mem_nil, or_false] at hu
        rcases hu with rfl | rfl
        · exact gn_str (by decide +kernel) (by decide +kernel)
        · exact gn_le (m := 1) (g10.mono (s11.trans (s12.trans (s13.trans (s14.trans (s15.trans s16)))))) (by decide))
      · exact wq_bad ((s13.trans (s14.trans (s15.trans s16))) _ _ ke12) (fun u hu => by
        simp only [List.mem_cons, List.not_mem_nil, or_false] at hu
        rcases hu with rfl
        · exact ⟨_, kd_str K _ (by decide)⟩) (by show 1 ≤ 900; decide) (by decide +kernel) (fun u hu => by
        simp only [List.mem_cons, List.not_mem_nil, or_false] at hu
        rcases hu with rfl
        · exact gn_str (by decide +kernel) (by decide +kernel))
      · exact wq_bad ((s14.trans (s15.trans s16)) _ _ ke13) (fun u hu => by
        simp only [List.mem_cons, List.not_mem_nil, or_false] at hu
        rcases hu with rfl
        · exact ⟨_, kd_str K _ (by decide)⟩) (by show 1 ≤ 900; decide) (by decide +kernel) (fun u hu => by
        simp only [List.mem_cons, List.not_mem_nil, or_false] at hu
        rcases hu with rfl
        · exact gn_str (by decide +kernel) (by decide +kernel))
      · exact wq_oth (kd_bl K _ _) (by decide) (.bad (.other (kd_bl K _ _) (by decide) (by decide))) (.dat (gn_bl))
      · exact wq_oth (kd_int K _ _) (by decide) (.bad (.other (kd_int K _ _) (by decide) (by decide))) (.dat (gn_int))
      · exact wq_bad ((s15.trans s16) _ _ ke14) (fun u hu => by
        simp only [List.mem_cons, List.not_mem_nil, or_false] at hu
        rcases hu with rfl
        · exact ⟨_, kd_bl K _ _⟩) (by show 1 ≤ 900; decide) (by decide +kernel) (fun u hu => by
        simp only [List.mem_cons, List.not_mem_nil, or_false] at hu
        rcases hu with rfl
        · exact gn_bl)
      · exact wq_bad (s16 _ _ ke15) (fun u hu => by
        simp only [List.mem_cons, List.not_mem_nil, or_false] at hu
        rcases hu with rfl | rfl
        · exact ⟨_, kd_str K _ (by decide)⟩
        · exact ⟨_, kd_str K _ (by decide)⟩) (by show 2 ≤ 900; decide) (by decide +kernel) (fun u hu => by
        simp only [List.mem_cons, List.not_mem_nil, or_false] at hu
        rcases hu with rfl | rfl
        · exact gn_str (by decide +kernel) (by decide +kernel)
        · exact gn_str (by decide +kernel) (by decide +kernel))
    refine ⟨p, l, S16, _, rfl, W16.pl, W16.ss _ _ kl, fun z => W15.pl.has (by rw [← z]; exact hl), by show 0 < 18; decide, by show 18 < 1000; decide, fun i v S' H' hv P' g' => ?_⟩
    obtain ⟨WL, sL⟩ := W16.then_ P' g'
    have hv := all v (List.mem_of_getElem? hv)
    exact q v S' H' (hv.mono sL) WL.pl WL.gr
abbrev sLbad_sights : Stmt := topS 33
abbrev nLbad_sights : List Str := ["_law_pool_here", "_law_words", "_law_more", "_law_letter"]
theorem scLbad_sights : FnScope nLbad_sights ["_law_pool_here", "_law_words"] (defScope sLbad_sights) := ⟨rfl, rfl, rfl, by decide +kernel, rfl, by decide +kernel, by decide +kernel⟩
def moreK : List (Key × V) := [(.inr "a", .str "a"), (.inr "b", .str "a"), (.inr "c", .str "a"), (.inr "d", .str "a"), (.inr "e", .str "a"), (.inr "f", .str "a"), (.inr "g", .str "a"), (.inr "h", .str "a"), (.inr "i", .str "a"), (.inr "j", .str "a"), (.inr "k", .str "a")]
def spBadSights (K : PySem.W.Frag) : Sp := fun vs H Q _ => ∃ (p : Addr) (S : Hp) (a : Addr) (zs : List Str), vs = [.ref p, .ref a] ∧ Pool S H p ∧ S a = some (.lst (zs.map V.str)) ∧ (∀ z ∈ zs, NameOk z) ∧ 1 ≤ zs.length ∧ ∀ (v : V) (S' H' : Hp), SiQ K S' v → Pool S' H' p → Gr p S H S' H' → Q v H'
theorem ok_bad_sights (D : Df K mg "_law_bad_sights" sLbad_sights ["_law_pool_here", "_law_words"] f fd) (DLpick : Df K mg "_law_pick" sLpick ["_law_pool_here", "_law_items"] fB fdB) (GLpick : FnOk P w K mg base CX0 2 fB fdB ["_law_pool_here", "_law_items"] spPick) (T : Bl mg) : FnOk P w K mg base CX0 3 f fd ["_law_pool_here", "_law_words"] (spBadSights K) := by
  refine D.fn.ok scLbad_sights (fun vs H Q E h => ?_) (fun cdv A outer s H vs Q E hr h => ?_)
  · obtain ⟨p, S, a, zs, rfl, _⟩ := h
    rfl
  · obtain ⟨p, S0, a, zs, rfl, P0, ha, hz, hz1, q⟩ := h
    refine ⟨_, (pss_cons (ps_set (i := 2) scLbad_sights.nd rfl (Or.inl rfl) pe_dnewK)
      (pss_cons (ps_for PassesOwn.never rfl (pi_str pe_str) (pg_name (i := 3) scLbad_sights.nd rfl (Or.inl rfl)) (pss_one (ps_dput (hu1 hr) (pv 2) (pv 3) pe_str (by rfl))))
      (pss_one (ps_ret (pe_df DLpick GLpick (hr.mono (by decide)) (pa_cons (pv 0) (pa_cons (pe_lst (pa_cons pe_dnewK (pa_cons pe_non (pa_cons (pe_lst pa_nil) (pa_cons pe_str (pa_cons (pv 2) (pa_cons (pe_disp (pps_cons pe_str pe_str pps_nil) rfl rfl (by simp) (by decide)) (pa_cons (pe_disp (pps_cons pe_str pe_str pps_nil) rfl rfl (by simp) (by decide)) (pa_cons (pe_disp (pps_cons pe_str pe_non pps_nil) rfl rfl (by simp) (by decide)) (pa_cons (pe_disp (pps_cons pe_int pe_str pps_nil) rfl rfl (by simp) (by decide)) (pa_cons (pe_oddT (hu0 hr) (pps_cons (pe_tup (pa_cons pe_str pa_nil)) pe_str pps_nil) rfl rfl (by simp) (by decide)) (pa_cons (pe_oddN (pps_cons pe_non pe_str pps_nil) rfl rfl (by simp) (by decide)) (pa_cons (pe_disp (pps_cons pe_str pe_str pps_nil) rfl rfl (by simp) (by decide)) (pa_cons (pe_disp (pps_cons pe_str pe_str pps_nil) rfl rfl (by simp) (by decide)) (pa_cons (pe_disp (pps_cons pe_str pe_str pps_nil) rfl rfl (by simp) (by decide)) (pa_cons (pe_lst (pa_cons (pe_tup (pa_cons pe_str (pa_cons pe_str pa_nil))) pa_nil)) (pa_cons (pe_disp (pps_cons (pe_ix ix_list (pv 1) pe_int (fun _ _ => rfl)) pe_str (pps_cons pe_str pe_str pps_nil)) rfl rfl (by simp) (by decide)) (pa_cons pe_bl (pa_cons pe_int pa_nil))))))))))))))))))) pa_nil))))))), ?_⟩
    have W0 : Wd p S0 H S0 H := ⟨P0, Gr.refl⟩
    obtain ⟨w0, zr, rfl⟩ : ∃ w0 zr, zs = w0 :: zr := by
      cases zs with
      | nil => simp at hz1
      | cons x r => exact ⟨x, r, rfl⟩
    have hw0 := hz w0 (by simp)
    have hwA : (Sum.inr w0 : Key) ≠ (Sum.inr ("A" : Str) : Key) := fun z => by
      have e : w0 = "A" := by injection z
      have := (nmB_iff w0).mpr hw0
      rw [e] at this
      exact absurd this (by decide +kernel)
    have hmerge : mergeK [] ([((Sum.inr w0 : Key), V.str "a"), ((Sum.inr ("A" : Str) : Key), V.str "a")] : List (Key × V)) = [((Sum.inr w0 : Key), V.str "a"), ((Sum.inr ("A" : Str) : Key), V.str "a")] := by
      show putK ([((Sum.inr w0 : Key), V.str "a")] : List (Key × V)) ((Sum.inr ("A" : Str) : Key)) (V.str "a") = _
      unfold putK
      rw [if_neg (by simp [hwA])]
      rfl
    refine fun mo hmo => ⟨("abcdefghijk" : Str), rfl, L2.for_it L2.walk_str (fun i σ H' => (∃ u : Option V, σ = [some (.ref p), some (.ref a), some (.ref mo), u]) ∧ H' = upd H mo (.dK (mergeK [] ((("abcdefghijk" : Str).cps.toList.take i).map fun c => ((Sum.inr ⟨#[c]⟩, V.str "a") : Key × V))))) ⟨⟨_, rfl⟩, rfl⟩ (fun _ _ _ _ _ => trivial) ?_ ?_⟩
    · rintro i x σ H1 H2 hi ⟨⟨u, rfl⟩, rfl⟩ ⟨rfl, c, hc, rfl⟩
      refine ⟨_, rfl, _, rfl, mo, _, rfl, .inl ⟨_, .inr ⟨#[c]⟩, upd_same, rfl, ?_, rfl⟩, ⟨_, rfl⟩, ?_⟩
      · have h1 := length_mergeK ((("abcdefghijk" : Str).cps.toList.take i).map fun c => ((Sum.inr ⟨#[c]⟩, V.str "a") : Key × V)) []
        rw [List.length_map, List.length_take, List.length_nil] at h1
        have h2 : ("abcdefghijk" : Str).cps.toList.length = 11 := by decide +kernel
        exact small1000 (by omega)
      · rw [upd_upd, take_next (by rw [Array.getElem?_toList]; exact hc), List.map_append]
        unfold mergeK
        rw [List.foldl_append]
        rfl
    rintro σ H1 ⟨⟨u, rfl⟩, rfl⟩
    rw [show (mergeK [] ((("abcdefghijk" : Str).cps.toList.take ("abcdefghijk" : Str).cps.size).map fun c => ((Sum.inr ⟨#[c]⟩, V.str "a") : Key × V))) = moreK from by decide +kernel]
    obtain ⟨S1, W1, s1, kmo⟩ := W0.new hmo (.dK moreK)
    refine ⟨_, rfl, fun e1 he1 => ?_⟩
    obtain ⟨S2, W2, s2, ke1⟩ := W1.new he1 (.dK [])
    refine ⟨by show 0 ≤ sizeLine; decide, fun e2 he2 => ?_⟩
    obtain ⟨S3, W3, s3, ke2⟩ := W2.new he2 (.lst [])
    refine ⟨_, rfl, fun e3 he3 => ⟨upd_same, [(.inr "A", .str "a")], rfl, by decide, ?_⟩⟩
    rw [upd_upd]
    obtain ⟨S4, W4, s4, ke3⟩ := W3.new he3 (.dK (mergeK [] [(.inr "A", .str "a")]))
    have ke3 : S4 e3 = some (HO.dK [(.inr "A", .str "a")]) := ke3
    refine fun e4 he4 => ⟨upd_same, [(.inr "a", .str "A")], rfl, by decide, ?_⟩
    rw [upd_upd]
    obtain ⟨S5, W5, s5, ke4⟩ := W4.new he4 (.dK (mergeK [] [(.inr "a", .str "A")]))
    have ke4 : S5 e4 = some (HO.dK [(.inr "a", .str "A")]) := ke4
    refine fun e5 he5 => ⟨upd_same, [(.inr "a", .non)], rfl, by decide, ?_⟩
    rw [upd_upd]
    obtain ⟨S6, W6, s6, ke5⟩ := W5.new he5 (.dK (mergeK [] [(.inr "a", .non)]))
    have ke5 : S6 e5 = some (HO.dK [(.inr "a", .non)]) := ke5
    refine fun e6 he6 => ⟨upd_same, [(.inl 0, .str "a")], rfl, by decide, ?_⟩
    rw [upd_upd]
    obtain ⟨S7, W7, s7, ke6⟩ := W6.new he6 (.dK (mergeK [] [(.inl 0, .str "a")]))
    have ke6 : S7 e6 = some (HO.dK [(.inl 0, .str "a")]) := ke6
    refine fun e7 he7 => ?_
    have hs7 := same_upd (o := .dK []) he7
    refine ⟨by show 1 ≤ sizeLine; decide, fun t7 ht7 => ?_⟩
    have n7 : t7 ≠ e7 := fun z => by rw [z, upd_same] at ht7; cases ht7
    refine ⟨by rw [upd_ne n7.symm, upd_same], t7, "a", "a", rfl, upd_same, fun en7 ep7 hk7 _ => ?_⟩
    rw [upd3 n7]
    have ht7 := (upd_ne n7).symm.trans ht7
    obtain ⟨S8, W8, s8, kt7⟩ := W7.new ht7 (.tup [.str "a"])
    have he7 := (upd_ne (o := .tup [.str "a"]) n7.symm).trans he7
    obtain ⟨S9, W9, s9, ke7⟩ := W8.new he7 (rawO e7 en7 ep7)
    refine fun e8 he8 => ⟨upd_same, "a", rfl, fun en8 ep8 hk8 _ => ?_⟩
    rw [upd_upd]
    obtain ⟨S10, W10, s10, ke8⟩ := W9.new he8 (rawO e8 en8 ep8)
    refine fun e9 he9 => ⟨upd_same, [(.inr "a", .str "")], rfl, by decide, ?_⟩
    rw [upd_upd]
    obtain ⟨S11, W11, s11, ke9⟩ := W10.new he9 (.dK (mergeK [] [(.inr "a", .str "")]))
    have ke9 : S11 e9 = some (HO.dK [(.inr "a", .str "")]) := ke9
    refine fun e10 he10 => ⟨upd_same, [(.inr "a", .str "abcdefghijk")], rfl, by decide, ?_⟩
    rw [upd_upd]
    obtain ⟨S12, W12, s12, ke10⟩ := W11.new he10 (.dK (mergeK [] [(.inr "a", .str "abcdefghijk")]))
    have ke10 : S12 e10 = some (HO.dK [(.inr "a", .str "abcdefghijk")]) := ke10
    refine fun e11 he11 => ⟨upd_same, [(.inr "", .str "a")], rfl, by decide, ?_⟩
    rw [upd_upd]
    obtain ⟨S13, W13, s13, ke11⟩ := W12.new he11 (.dK (mergeK [] [(.inr "", .str "a")]))
    have ke11 : S13 e11 = some (HO.dK [(.inr "", .str "a")]) := ke11
    refine ⟨by show 2 ≤ sizeLine; decide, fun e12 he12 => ?_⟩
    obtain ⟨S14, W14, s14, ke12⟩ := W13.new he12 (.tup [.str "a", .str "b"])
    have g12 : Gn K 1 S14 (.ref e12) := gn_tup ke12 (fun u hu => by
        simp only [List.mem_cons, List.not_mem_nil, or_false] at hu
        rcases hu with rfl | rfl
        · exact gn_str (by decide +kernel) (by decide +kernel)
        · exact gn_str (by decide +kernel) (by decide +kernel)) (by show 2 ≤ 900; decide)
    refine ⟨by show 1 ≤ sizeLine; decide, fun e13 he13 => ?_⟩
    obtain ⟨S15, W15, s15, ke13⟩ := W14.new he13 (.lst [.ref e12])
    refine fun e14 he14 => ?_
    refine ⟨_, rfl, a, _, 0, .str w0, rfl, rfl, SqL.of (same_upd he14 _ _ (W15.ss _ _ ((s1.trans (s2.trans (s3.trans (s4.trans (s5.trans (s6.trans (s7.trans (s8.trans (s9.trans (s10.trans (s11.trans (s12.trans (s13.trans (s14.trans s15)))))))))))))) _ _ ha))), atI_nat (j := 0) rfl, upd_same, [(.inr w0, .str "a"), (.inr "A", .str "a")], rfl, by show 2 ≤ 15; decide, ?_⟩
    rw [upd_upd, hmerge]
    obtain ⟨S16, W16, s16, ke14⟩ := W15.new he14 (.dK [(.inr w0, .str "a"), (.inr "A", .str "a")])
    refine ⟨by show 18 ≤ sizeLine; decide, fun l hl => ?_⟩
    obtain ⟨S17, W17, s17, kl⟩ := W16.new hl (.lst [.ref e1, .non, .ref e2, .str "a", .ref mo, .ref e3, .ref e4, .ref e5, .ref e6, .ref e7, .ref e8, .ref e9, .ref e10, .ref e11, .ref e13, .ref e14, .bl true, .int 0])
    have all : ∀ v ∈ ([.ref e1, .non, .ref e2, .str "a", .ref mo, .ref e3, .ref e4, .ref e5, .ref e6, .ref e7, .ref e8, .ref e9, .ref e10, .ref e11, .ref e13, .ref e14, .bl true, .int 0] : List V), SiQ K S17 v := fun v hv => by
      simp only [List.mem_cons, List.not_mem_nil, or_false] at hv
      rcases hv with rfl | rfl | rfl | rfl | rfl | rfl | rfl | rfl | rfl | rfl | rfl | rfl | rfl | rfl | rfl | rfl | rfl | rfl
      · exact sg_bad ((s3.trans (s4.trans (s5.trans (s6.trans (s7.trans (s8.trans (s9.trans (s10.trans (s11.trans (s12.trans (s13.trans (s14.trans (s15.trans (s16.trans s17)))))))))))))) _ _ ke1) (fun p hp => by simp at hp) (fun p hp => by simp at hp) (by simp) (by show 0 ≤ 1000; decide) (by decide)
      · exact sg_oth (kd_non K _) (by decide) (.dat (gn_non))
      · exact sg_oth (kd_lst K ((s4.trans (s5.trans (s6.trans (s7.trans (s8.trans (s9.trans (s10.trans (s11.trans (s12.trans (s13.trans (s14.trans (s15.trans (s16.trans s17))))))))))))) _ _ ke2)) (by decide) (.dat (gn_le (m := 1) (gn_lst ((s4.trans (s5.trans (s6.trans (s7.trans (s8.trans (s9.trans (s10.trans (s11.trans (s12.trans (s13.trans (s14.trans (s15.trans (s16.trans s17))))))))))))) _ _ ke2) (fun u hu => by simp at hu) (by show 0 ≤ 900; decide)) (by decide)))
      · exact sg_oth (kd_str K _ (by decide)) (by decide) (.dat (gn_str (by decide +kernel) (by decide +kernel)))
      · exact sg_bad ((s2.trans (s3.trans (s4.trans (s5.trans (s6.trans (s7.trans (s8.trans (s9.trans (s10.trans (s11.trans (s12.trans (s13.trans (s14.trans (s15.trans (s16.trans s17))))))))))))))) _ _ kmo) (fun p hp => .inr ⟨"a", (by decide +kernel : ∀ p ∈ moreK, p.2 = V.str "a") p hp, by decide⟩) (fun p hp z e => by
        have := (by decide +kernel : ∀ p ∈ moreK, (match p.1 with | .inr z => decide (z.length ≤ 1) | _ => false) = true) p hp
        rw [e] at this
        exact sl_ok (of_decide_eq_true this)) (by decide +kernel) (by decide +kernel) (by decide +kernel)
      · exact sg_bad ((s5.trans (s6.trans (s7.trans (s8.trans (s9.trans (s10.trans (s11.trans (s12.trans (s13.trans (s14.trans (s15.trans (s16.trans s17)))))))))))) _ _ ke3) (fun p hp => by rw [List.mem_singleton.mp hp]; exact .inr ⟨_, rfl, by decide⟩) (fun p hp z e => by rw [List.mem_singleton.mp hp] at e; cases e; decide) (by simp) (by show 1 ≤ 1000; decide) (by decide +kernel)
      · exact sg_bad ((s6.trans (s7.trans (s8.trans (s9.trans (s10.trans (s11.trans (s12.trans (s13.trans (s14.trans (s15.trans (s16.trans s17))))))))))) _ _ ke4) (fun p hp => by rw [List.mem_singleton.mp hp]; exact .inr ⟨_, rfl, by decide⟩) (fun p hp z e => by rw [List.mem_singleton.mp hp] at e; cases e; decide) (by simp) (by show 1 ≤ 1000; decide) (by decide +kernel)
      · exact sg_bad ((s7.trans (s8.trans (s9.trans (s10.trans (s11.trans (s12.trans (s13.trans (s14.trans (s15.trans (s16.trans s17)))))))))) _ _ ke5) (fun p hp => by rw [List.mem_singleton.mp hp]; exact .inl rfl) (fun p hp z e => by rw [List.mem_singleton.mp hp] at e; cases e; decide) (by simp) (by show 1 ≤ 1000; decide) (by decide +kernel)
      · exact sg_bad ((s8.trans (s9.trans (s10.trans (s11.trans (s12.trans (s13.trans (s14.trans (s15.trans (s16.trans s17))))))))) _ _ ke6) (fun p hp => by rw [List.mem_singleton.mp hp]; exact .inr ⟨_, rfl, by decide⟩) (fun p hp z e => by rw [List.mem_singleton.mp hp] at e; cases e) (by simp) (by show 1 ≤ 1000; decide) (by decide +kernel)
      · exact sg_raw (k := .ref t7) ((s10.trans (s11.trans (s12.trans (s13.trans (s14.trans (s15.trans (s16.trans s17))))))) _ _ ke7) hk7 (.inr ⟨t7, _, rfl, ((s9.trans (s10.trans (s11.trans (s12.trans (s13.trans (s14.trans (s15.trans (s16.trans s17)))))))) _ _ kt7)⟩)
      · exact sg_raw (k := .non) ((s11.trans (s12.trans (s13.trans (s14.trans (s15.trans (s16.trans s17)))))) _ _ ke8) hk8 (.inl rfl)
      · exact sg_bad ((s12.trans (s13.trans (s14.trans (s15.trans (s16.trans s17))))) _ _ ke9) (fun p hp => by rw [List.mem_singleton.mp hp]; exact .inr ⟨_, rfl, by decide⟩) (fun p hp z e => by rw [List.mem_singleton.mp hp] at e; cases e; decide) (by simp) (by show 1 ≤ 1000; decide) (by decide +kernel)
      · exact sg_bad ((s13.trans (s14.trans (s15.trans (s16.trans s17)))) _ _ ke10) (fun p hp => by rw [List.mem_singleton.mp hp]; exact .inr ⟨_, rfl, by decide⟩) (fun p hp z e => by rw [List.mem_singleton.mp hp] at e; cases e; decide) (by simp) (by show 1 ≤ 1000; decide) (by decide +kernel)
      · exact sg_bad ((s14.trans (s15.trans (s16.trans s17))) _ _ ke11) (fun p hp => by rw [List.mem_singleton.mp hp]; exact .inr ⟨_, rfl, by decide⟩) (fun p hp z e => by rw [List.mem_singleton.mp hp] at e; cases e; decide) (by simp) (by show 1 ≤ 1000; decide) (by decide +kernel)
      · exact sg_oth (kd_lst K ((s16.trans s17) _ _ ke13)) (by decide) (.dat (gn_le (m := 2) (gn_lst ((s16.trans s17) _ _ ke13) (fun u hu => by rw [List.mem_singleton.mp hu]; exact g12.mono (s15.trans (s16.trans s17))) (by show 1 ≤ 900; decide)) (by decide)))
      · exact sg_bad (s17 _ _ ke14) (fun p hp => by
        simp only [List.mem_cons, List.not_mem_nil, or_false] at hp
        rcases hp with rfl | rfl <;> exact .inr ⟨_, rfl, by decide⟩) (fun p hp z e => by
        simp only [List.mem_cons, List.not_mem_nil, or_false] at hp
        rcases hp with rfl | rfl
        · cases e; exact sl_ok hw0.2.1
        · cases e; decide) (by simp [hwA]) (by show 2 ≤ 1000; decide) (by
        show (_ && (_ && ((isNm (.str "A") && _) && true))) = false
        rw [show isNm (.str "A") = false by decide +kernel]
        simp)
      · exact sg_oth (kd_bl K _ _) (by decide) (.dat (gn_bl))
      · exact sg_oth (kd_int K _ _) (by decide) (.dat (gn_int))
    refine ⟨p, l, S17, _, rfl, W17.pl, W17.ss _ _ kl, fun z => W16.pl.has (by rw [← z]; exact hl), by show 0 < 18; decide, by show 18 < 1000; decide, fun i v S' H' hv P' g' => ?_⟩
    obtain ⟨WL, sL⟩ := W17.then_ P' g'
    have hv := all v (List.mem_of_getElem? hv)
    exact q v S' H' (hv.mono sL) WL.pl WL.gr
end
end WW

set_option Elab.async false
set_option linter.all false
set_option maxRecDepth 100000
set_option maxHeartbeats 4000000
namespace WW
open PySem PySem.Spec PyProof.Rows L2
/-! ### the arguments; the flag: is it spoilt -/
inductive HdQ (K : PySem.W.Frag) (S : Hp) : V → Bool → Prop
  | bad {v : V} : Gn K 4 S v → isNm v = false → HdQ K S v true
  | good {z : Str} : NameOk z → HdQ K S (.str z) false
inductive PoQ (K : PySem.W.Frag) (S : Hp) : V → Bool → Prop
  | bad {v : V} : Gn K 4 S v → btw 0 1 v = false → PoQ K S v true
  | good {i : Int} : 0 ≤ i → i ≤ 1 → PoQ K S (.int i) false
inductive FeQ (K : PySem.W.Frag) (S : Hp) : V → Bool → Prop
  | bad {v : V} : ThQ K S v → (∃ n, Kd K S v n) → btw 1 1000 v = false → FeQ K S v true
  | good {i : Int} : 1 ≤ i → i ≤ 1000 → FeQ K S (.int i) false
inductive SrQ (K : PySem.W.Frag) (S : Hp) : V → V → Bool → Prop
  | bad {v u : V} : SiQ K S v → WdQ K S u → SrQ K S v u true
  | good {a b : Addr} {zs : ZZ} : S a = some (.dK (dS zs)) → S b = some (.lst ((zs.map (·.1)).map V.str)) → goodZ zs → SrQ K S (.ref a) (.ref b) false
section
variable {K : PySem.W.Frag} {S S' : Hp} {v u : V} {b : Bool}
theorem HdQ.mono (s : Same S S') (h : HdQ K S v b) : HdQ K S' v b := by
  cases h with
  | bad g n => exact .bad (g.mono s) n
  | good n => exact .good n
theorem PoQ.mono (s : Same S S') (h : PoQ K S v b) : PoQ K S' v b := by
  cases h with
  | bad g n => exact .bad (g.mono s) n
  | good n m => exact .good n m
theorem FeQ.mono (s : Same S S') (h : FeQ K S v b) : FeQ K S' v b := by
  cases h with
  | bad g k n => exact .bad (g.mono s) (let ⟨n, z⟩ := k; ⟨n, z.mono s⟩) n
  | good n m => exact .good n m
theorem SrQ.mono (s : Same S S') (h : SrQ K S v u b) : SrQ K S' v u b := by
  cases h with
  | bad g k => exact .bad (g.mono s) (k.mono s)
  | good n m g => exact .good (s _ _ n) (s _ _ m) g
theorem HdQ.nm (h : HdQ K S v b) : isNm v = !b := by
  cases h with
  | bad g n => exact n
  | good n => exact (nmB_iff _).mpr n
theorem HdQ.kd (h : HdQ K S v b) : ∃ n, Kd K S v n := by
  cases h with
  | bad g n => exact g.kd
  | good n => exact ⟨_, kd_str K S (sl_ok n.2.1)⟩
theorem HdQ.th (h : HdQ K S v b) : ThQ K S v := by
  cases h with
  | bad g n => exact .dat g
  | good n => exact .dat (gn_str (name_sok n) (Nat.le_trans n.2.1 (by decide)))
theorem PoQ.nm (h : PoQ K S v b) : btw 0 1 v = !b := by
  cases h with
  | bad g n => exact n
  | good n m =>
    show (decide _ && decide _) = _
    rw [decide_eq_true n, decide_eq_true m]
    rfl
theorem PoQ.kd (h : PoQ K S v b) : ∃ n, Kd K S v n := by
  cases h with
  | bad g n => exact g.kd
  | good n => exact ⟨_, kd_int K S _⟩
theorem PoQ.th (h : PoQ K S v b) : ThQ K S v := by
  cases h with
  | bad g n => exact .dat g
  | good n => exact .dat gn_int
theorem FeQ.nm (h : FeQ K S v b) : btw 1 1000 v = !b := by
  cases h with
  | bad g k n => exact n
  | good n m =>
    show (decide _ && decide _) = _
    rw [decide_eq_true n, decide_eq_true m]
    rfl
theorem FeQ.kd (h : FeQ K S v b) : ∃ n, Kd K S v n := by
  cases h with
  | bad g k n => exact k
  | good n => exact ⟨_, kd_int K S _⟩
theorem FeQ.th (h : FeQ K S v b) : ThQ K S v := by
  cases h with
  | bad g k n => exact g
  | good n => exact .dat gn_int
end
theorem one_of {α : Type} {l : List α} (h : (l.length : Int) = 1) : ∃ x, l = [x] := by
  match l, h with
  | [x], _ => exact ⟨x, rfl⟩
  | [], h => simp at h
  | _ :: _ :: _, h => simp at h; omega
section
variable {P : Program} {w : World} {K : PySem.W.Frag} {mg : Str → Option Value} {base : Heap} {f fA fB fC f1 f2 f3 f4 f5 : Addr} {fd fdA fdB fdC fd1 fd2 fd3 fd4 fd5 : FuncData}
abbrev sLarguments : Stmt := topS 35
abbrev nLarguments : List Str := ["_law_pool_here", "_law_spoils", "_law_words", "_law_head", "_law_post", "_law_fee", "_law_shown", "_law_word", "_law_row", "_law_k"]
theorem scLarguments : FnScope nLarguments ["_law_pool_here"] (defScope sLarguments) := ⟨rfl, rfl, rfl, by decide +kernel, rfl, by decide +kernel, by decide +kernel⟩
def spArgs (K : PySem.W.Frag) : Sp := fun vs H Q _ => ∃ (p : Addr) (S : Hp), vs = [.ref p] ∧ Pool S H p ∧ ∀ (t sp : Addr) (b0 b1 b2 b3 : Bool) (hd po sh ro fe : V) (S' H' : Hp),
  S' t = some (.tup [.ref sp, hd, po, sh, ro, fe]) → S' sp = some (.lst ([b0, b1, b2, b3].map V.bl)) → HdQ K S' hd b0 → PoQ K S' po b1 → SrQ K S' sh ro b2 → FeQ K S' fe b3 → Pool S' H' p → Gr p S H S' H' → Q (.ref t) H'
theorem ok_args (D : Df K mg "_law_arguments" sLarguments ["_law_pool_here"] f fd) (DLdraw : Df K mg "_law_draw" sLdraw ["_law_pool_here", "_law_many"] fA fdA) (GLdraw : FnOk P w K mg base CX0 1 fA fdA ["_law_pool_here", "_law_many"] spDraw)
    (DLnames : Df K mg "_law_names" sLnames ["_law_pool_here", "_law_many"] fC fdC) (GLnames : FnOk P w K mg base CX0 3 fC fdC ["_law_pool_here", "_law_many"] spNames)
    (DLbad_head : Df K mg "_law_bad_head" sLbad_head ["_law_pool_here"] f1 fd1) (GLbad_head : FnOk P w K mg base CX0 3 f1 fd1 ["_law_pool_here"] (spBadHead K))
    (DLbad_post : Df K mg "_law_bad_post" sLbad_post ["_law_pool_here"] f2 fd2) (GLbad_post : FnOk P w K mg base CX0 3 f2 fd2 ["_law_pool_here"] (spBadPost K))
    (DLbad_cost : Df K mg "_law_bad_cost" sLbad_cost ["_law_pool_here"] f3 fd3) (GLbad_cost : FnOk P w K mg base CX0 3 f3 fd3 ["_law_pool_here"] (spBadCost K))
    (DLbad_words : Df K mg "_law_bad_words" sLbad_words ["_law_pool_here", "_law_words"] f4 fd4) (GLbad_words : FnOk P w K mg base CX0 3 f4 fd4 ["_law_pool_here", "_law_words"] (spBadWords K))
    (DLbad_sights : Df K mg "_law_bad_sights" sLbad_sights ["_law_pool_here", "_law_words"] f5 fd5) (GLbad_sights : FnOk P w K mg base CX0 3 f5 fd5 ["_law_pool_here", "_law_words"] (spBadSights K))
    (T : Bl mg) : FnOk P w K mg base CX0 4 f fd ["_law_pool_here"] (spArgs K) := by
  refine D.fn.ok scLarguments (fun vs H Q E h => ?_) (fun cdv A outer s H vs Q E hr h => ?_)
  · obtain ⟨p, S, rfl, _⟩ := h
    rfl
  · obtain ⟨p, S0, rfl, P0, q⟩ := h
    refine ⟨_, (pss_cons (ps_setLc (i := 1) (own := [("_law_k", 9)]) rfl scLarguments.nd rfl rfl (sw_true rfl rfl rfl (by decide +kernel)) (pi_range1 (by rfl) T.range (pa_cons pe_int pa_nil)) (blkOk_by (own := [("_law_k", 9)]) (N := nLarguments) (sc := defScope sLarguments) (by decide +kernel)) (fun _ _ _ _ _ => (pg_name (i := 9) scLarguments.nd rfl (Or.inl rfl))) (fun _ _ _ _ _ => pts_nil) (fun _ _ _ _ _ => (pe_cmpR op_eq (pe_df DLdraw GLdraw (hr.mono (by decide)) (pa_cons (pv 0) (pa_cons pe_int pa_nil))) pe_int (nomark _))))
      (pss_cons (ps_set (i := 2) scLarguments.nd rfl (Or.inl rfl) (pe_df DLnames GLnames (hr.mono (by decide)) (pa_cons (pv 0) (pa_cons (pe_op op_add pe_int (pe_df DLdraw GLdraw (hr.mono (by decide)) (pa_cons (pv 0) (pa_cons pe_int pa_nil)))) pa_nil))))
      (pss_cons (ps_set (i := 3) scLarguments.nd rfl (Or.inl rfl) (pe_ix ix_list (pe_df DLnames GLnames (hr.mono (by decide)) (pa_cons (pv 0) (pa_cons pe_int pa_nil))) pe_int (fun _ _ => rfl)))
      (pss_cons (ps_set (i := 4) scLarguments.nd rfl (Or.inl rfl) (pe_df DLdraw GLdraw (hr.mono (by decide)) (pa_cons (pv 0) (pa_cons pe_int pa_nil))))
      (pss_cons (ps_set (i := 5) scLarguments.nd rfl (Or.inl rfl) (pe_op op_add pe_int (pe_df DLdraw GLdraw (hr.mono (by decide)) (pa_cons (pv 0) (pa_cons pe_int pa_nil)))))
      (pss_cons (ps_set (i := 6) scLarguments.nd rfl (Or.inl rfl) pe_dnewK)
      (pss_cons (ps_for PassesOwn.never rfl (pi_list (pv 2)) (pg_name (i := 7) scLarguments.nd rfl (Or.inl rfl)) (pss_one (ps_dput (hu1 hr) (pv 6) (pv 7) (pe_ix ix_list (pe_df DLnames GLnames (hr.mono (by decide)) (pa_cons (pv 0) (pa_cons pe_int pa_nil))) pe_int (fun _ _ => rfl)) (by rfl))))
      (pss_cons (ps_set (i := 8) scLarguments.nd rfl (Or.inl rfl) (pe_callTy call_list_of (by rfl) T.list (by decide +kernel) (pa_cons (pv 2) pa_nil)))
      (C8.pss_cut (ps_if (pt_val (pe_ix ix_list (pv 1) pe_int (fun _ _ => rfl))) (pss_one (ps_set (i := 3) scLarguments.nd rfl (Or.inl rfl) (pe_df DLbad_head GLbad_head (hr.mono (by decide)) (pa_cons (pv 0) pa_nil)))) pss_nil)
      (C8.pss_cut (ps_if (pt_val (pe_ix ix_list (pv 1) pe_int (fun _ _ => rfl))) (pss_one (ps_set (i := 4) scLarguments.nd rfl (Or.inl rfl) (pe_df DLbad_post GLbad_post (hr.mono (by decide)) (pa_cons (pv 0) pa_nil)))) pss_nil)
      (C8.pss_cut (ps_if (pt_val (pe_ix ix_list (pv 1) pe_int (fun _ _ => rfl))) (pss_cons (ps_set (i := 6) scLarguments.nd rfl (Or.inl rfl) (pe_df DLbad_sights GLbad_sights (hr.mono (by decide)) (pa_cons (pv 0) (pa_cons (pv 2) pa_nil))))
      (pss_one (ps_set (i := 8) scLarguments.nd rfl (Or.inl rfl) (pe_df DLbad_words GLbad_words (hr.mono (by decide)) (pa_cons (pv 0) (pa_cons (pv 2) pa_nil)))))) pss_nil)
      (C8.pss_cut (ps_if (pt_val (pe_ix ix_list (pv 1) pe_int (fun _ _ => rfl))) (pss_one (ps_set (i := 5) scLarguments.nd rfl (Or.inl rfl) (pe_df DLbad_cost GLbad_cost (hr.mono (by decide)) (pa_cons (pv 0) pa_nil)))) pss_nil)
      (pss_one (ps_ret (pe_tup (pa_cons (pv 1) (pa_cons (pv 3) (pa_cons (pv 4) (pa_cons (pv 6) (pa_cons (pv 8) (pa_cons (pv 5) pa_nil))))))))))))))))))))), ?_⟩
    have W0 : Wd p S0 H S0 H := ⟨P0, Gr.refl⟩
    refine ⟨4, rfl, by decide, by decide, fun D1 hD1 => lc_range (lo := 0) (n := 4) (fun i H' => ∃ (S' : Hp) (bs : List Bool), Wd p S0 H S' H' ∧ S' D1 = none ∧ H' D1 = some (.lst (bs.map V.bl)) ∧ bs.length = i) ?_ ?_ ?_⟩
    · have nDp : D1 ≠ p := fun z => P0.has (by rw [← z]; exact hD1)
      exact ⟨S0, [], W0.put hD1 (P0.ss.free hD1) nDp, P0.ss.free hD1, upd_same, rfl⟩
    · rintro i H' hi ⟨S', bs, W', sD, hD, lb⟩
      have nDp : D1 ≠ p := fun z => P0.has (by rw [← z]; exact hD1)
      refine ⟨rfl, _, rfl, p, S', 4, rfl, by decide, by decide, W'.pl, fun d S3 H3 P3 g3 d0 d1 => ?_⟩
      obtain ⟨W3, s3⟩ := W'.then_ P3 g3
      obtain ⟨sD3, hD3⟩ := g3.loc nDp sD hD
      refine ⟨rfl, _, hD3, small1000 (by rw [List.length_map]; omega), S3, bs ++ [decide (V.int d = V.int 0)], W3.put hD1 sD3 nDp, sD3, ?_, by rw [List.length_append, lb]; rfl⟩
      rw [upd_same, List.map_append]
      rfl
    rintro H1 ⟨S1', bs, W1', sD, hD, lb⟩
    have nDp : D1 ≠ p := fun z => P0.has (by rw [← z]; exact hD1)
    obtain ⟨S1, W1, s1, hsp⟩ := W1'.fix hD hD1 sD nDp
    obtain ⟨b0, b1, b2, b3, rfl⟩ : ∃ b0 b1 b2 b3, bs = [b0, b1, b2, b3] := by
      match bs, lb with
      | [b0, b1, b2, b3], _ => exact ⟨b0, b1, b2, b3, rfl⟩
    clear W1' s1
    -- the words
    refine ⟨_, rfl, _, rfl, p, S1, 10, rfl, by decide, by decide, W1.pl, fun d S2 H2 P2 g2 d0 d1 => ⟨_, _, rfl, rfl, p, 1 + d, S2, rfl, P2, by omega, by omega, fun r zs S3 H3 P3 g3 hr3 lz okz ndz => ?_⟩⟩
    obtain ⟨W2, s2⟩ := W1.then_ P2 g2
    obtain ⟨W3, s3⟩ := W2.then_ P3 g3
    -- the head
    refine ⟨_, rfl, p, 1, S3, rfl, P3, by decide, by decide, fun r1 z1 S4 H4 P4 g4 hr4 lz4 okz4 _ => ?_⟩
    obtain ⟨W4, s4⟩ := W3.then_ P4 g4
    obtain ⟨hd, rfl⟩ : ∃ hd, z1 = [hd] := one_of lz4
    refine ⟨r1, _, 0, .str hd, rfl, rfl, SqL.of (W4.ss _ _ hr4), atI_nat (j := 0) rfl, ?_⟩
    have nhd := okz4 hd (by simp)
    -- the post, the fee
    refine ⟨_, rfl, p, S4, 2, rfl, by decide, by decide, P4, fun po S5 H5 P5 g5 po0 po1 => ?_⟩
    obtain ⟨W5, s5⟩ := W4.then_ P5 g5
    refine ⟨_, rfl, p, S5, 1000, rfl, by decide, by decide, P5, fun fe S6 H6 P6 g6 fe0 fe1 => ⟨_, _, rfl, rfl, fun a ha => ?_⟩⟩
    obtain ⟨W6, s6⟩ := W5.then_ P6 g6
    have nap : a ≠ p := fun z => P6.has (by rw [← z]; exact ha)
    have sa6 : S6 a = none := P6.ss.free ha
    have hr6 : S6 r = some (.lst (zs.map V.str)) := s6 _ _ (s5 _ _ (s4 _ _ hr3))
    have H0a : H a = none := W6.gr.bk ha
    refine ⟨_, rfl, r, rfl, ⟨_, SqL.of (same_upd ha _ _ (W6.ss _ _ hr6))⟩, for_list (K := K) (a := r) (xs := zs.map V.str) (fun i σ H' => ∃ (u : Option V) (S' : Hp) (zz : ZZ), σ = [some (.ref p), some (.ref D1), some (.ref r), some (.str hd), some (.int po), some (.int (1 + fe)), some (.ref a), u, none, none] ∧ Wd p S0 H S' H' ∧ S' a = none ∧ Same S6 S' ∧ H' a = some (.dK (dS zz)) ∧ zz.map (·.1) = zs.take i ∧ ∀ x ∈ zz, NameOk x.1 ∧ NameOk x.2) ?_ ?_ ?_ ?_⟩
    · exact ⟨_, S6, [], rfl, W6.put H0a sa6 nap, sa6, Same.refl _, upd_same, rfl, fun x h => by simp at h⟩
    · rintro i σ H' _ ⟨u, S', zz, rfl, W', sa, ss, _⟩
      exact SqL.of (W'.ss _ _ (ss _ _ hr6))
    · rintro i x σ H' hi ⟨u, S', zz, rfl, W', sa, ss, h', em, ok⟩
      obtain ⟨y, hy, rfl⟩ : ∃ y, zs[i]? = some y ∧ x = .str y := by
        rw [List.getElem?_map] at hi
        cases e : zs[i]? with
        | none => rw [e] at hi; cases hi
        | some y => rw [e] at hi; cases hi; exact ⟨y, rfl, rfl⟩
      have hil : i < zs.length := (List.getElem?_eq_some_iff.mp hy).1
      refine ⟨_, rfl, p, 1, S', rfl, W'.pl, by decide, by decide, fun r2 z2 S7 H7 P7 g7 hr7 lz7 okz7 _ => ?_⟩
      obtain ⟨W7, s7⟩ := W'.then_ P7 g7
      obtain ⟨z, rfl⟩ : ∃ z, z2 = [z] := one_of lz7
      obtain ⟨sa7, h7⟩ := g7.loc nap sa h'
      refine ⟨r2, _, 0, .str z, rfl, rfl, SqL.of (W7.ss _ _ hr7), atI_nat (j := 0) rfl, _, rfl, _, rfl, a, _, rfl, DPut.k (k := .inr y) h7 ?_, ?_⟩
      · unfold dS
        rw [List.length_map]
        have : zz.length = (zs.take i).length := by rw [← em, List.length_map]
        rw [List.length_take] at this
        exact small1000 (by omega)
      · rw [put_new (by rw [em]; exact not_before ndz hy)]
        refine ⟨_, S7, zz ++ [(y, z)], rfl, W7.put H0a sa7 nap, sa7, ss.trans s7, upd_same, by rw [List.map_append, em, take_next hy]; rfl, fun x hx => ?_⟩
        rcases List.mem_append.mp hx with hx | hx
        · exact ok x hx
        · rw [List.mem_singleton.mp hx]
          exact ⟨okz y (List.mem_of_getElem? hy), okz7 z (by simp)⟩
    rintro σ H7 ⟨u, S7', zz, rfl, W7', sa, ss, h7, em, ok⟩
    rw [List.length_map, List.take_length] at em
    obtain ⟨S7, W7, s7, ha7⟩ := W7'.fix h7 H0a sa nap
    have s67 := ss.trans s7
    have hr7 := s67 _ _ hr6
    have good : goodZ zz := by
      have l : zz.length = zs.length := by rw [← em, List.length_map]
      exact ⟨by rw [em]; exact ndz, ok, by omega, by omega⟩
    refine ⟨_, rfl, r, _, rfl, .inl (SqL.of (W7.ss _ _ hr7)), fun ro hro => ?_⟩
    obtain ⟨S8, W8, s8, hro8⟩ := W7.new hro (.lst (zs.map V.str))
    have s28 : Same S1 S8 := s2.trans (s3.trans (s4.trans (s5.trans (s6.trans (s67.trans s8)))))
    have hsp8 := s28 _ _ hsp
    have hr8 := s8 _ _ hr7
    have sr8 : SrQ K S8 (.ref a) (.ref ro) false := .good (s8 _ _ ha7) (by rw [em]; exact hro8) good
    have z1 : 1 ≤ zs.length := by omega
    clear s28 s8 hro8 hr7 s67 good ha7 s7 W7 em ok h7 ss sa W7' sa6 hr6 H0a s6 W6 s5 W5 W4 s4 W3 s3 W2 s2 W1 g2 g3 g4 g5 g6 P2 P3 P4 P5 P6 hr3 hr4 ha
    show C8.tCut _ _ _ [some (.ref p), some (.ref D1), some (.ref r), some (.str hd), some (.int po), some (.int (1 + fe)), some (.ref a), u, some (.ref ro), none] _
    refine ⟨fun σ' H' => ∃ (S' : Hp) (h : V), σ' = [some (.ref p), some (.ref D1), some (.ref r), some h, some (.int po), some (.int (1 + fe)), some (.ref a), u, some (.ref ro), none] ∧ Wd p S0 H S' H' ∧ Same S8 S' ∧ HdQ K S' h b0, ?_, ?_⟩
    · refine ⟨_, rfl, D1, _, 0, .bl b0, rfl, rfl, SqL.of (W8.ss _ _ hsp8), rfl, b0, rfl, ?_⟩
      cases b0 with
      | true =>
        refine ⟨_, rfl, p, S8, rfl, W8.pl, fun v S' H' h1 h2 P' g' => ?_⟩
        obtain ⟨W', s'⟩ := W8.then_ P' g'
        exact ⟨S', v, rfl, W', s', .bad h1 h2⟩
      | false => exact ⟨S8, _, rfl, W8, Same.refl _, .good nhd⟩
    rintro σ' H' ⟨S9, hd9, rfl, W9, s9, q9⟩
    have hsp9 := s9 _ _ hsp8
    refine ⟨fun σ' H' => ∃ (S' : Hp) (h : V), σ' = [some (.ref p), some (.ref D1), some (.ref r), some hd9, some h, some (.int (1 + fe)), some (.ref a), u, some (.ref ro), none] ∧ Wd p S0 H S' H' ∧ Same S9 S' ∧ PoQ K S' h b1, ?_, ?_⟩
    · refine ⟨_, rfl, D1, _, 1, .bl b1, rfl, rfl, SqL.of (W9.ss _ _ hsp9), rfl, b1, rfl, ?_⟩
      cases b1 with
      | true =>
        refine ⟨_, rfl, p, S9, rfl, W9.pl, fun v S' H' h1 h2 P' g' => ?_⟩
        obtain ⟨W', s'⟩ := W9.then_ P' g'
        exact ⟨S', v, rfl, W', s', .bad h1 h2⟩
      | false => exact ⟨S9, _, rfl, W9, Same.refl _, .good po0 (by omega)⟩
    rintro σ' H' ⟨S10, po10, rfl, W10, s10, q10⟩
    have hsp10 := s10 _ _ hsp9
    have hr10 := s10 _ _ (s9 _ _ hr8)
    refine ⟨fun σ' H' => ∃ (S' : Hp) (h j : V), σ' = [some (.ref p), some (.ref D1), some (.ref r), some hd9, some po10, some (.int (1 + fe)), some h, u, some j, none] ∧ Wd p S0 H S' H' ∧ Same S10 S' ∧ SrQ K S' h j b2, ?_, ?_⟩
    · refine ⟨_, rfl, D1, _, 2, .bl b2, rfl, rfl, SqL.of (W10.ss _ _ hsp10), rfl, b2, rfl, ?_⟩
      cases b2 with
      | true =>
        refine ⟨_, rfl, _, rfl, p, S10, r, zs, rfl, W10.pl, hr10, okz, z1, fun v S' H' h1 P' g' => ?_⟩
        obtain ⟨W', s'⟩ := W10.then_ P' g'
        refine ⟨_, rfl, _, rfl, p, S', r, zs, rfl, W'.pl, s' _ _ hr10, okz, z1, fun v2 S'' H'' h3 P'' g'' => ?_⟩
        obtain ⟨W'', s''⟩ := W'.then_ P'' g''
        exact ⟨S'', v, v2, rfl, W'', s'.trans s'', .bad (h1.mono s'') h3⟩
      | false => exact ⟨S10, _, _, rfl, W10, Same.refl _, sr8.mono (s9.trans s10)⟩
    rintro σ' H' ⟨S11, sh11, ro11, rfl, W11, s11, q11⟩
    have hsp11 := s11 _ _ hsp10
    refine ⟨fun σ' H' => ∃ (S' : Hp) (h : V), σ' = [some (.ref p), some (.ref D1), some (.ref r), some hd9, some po10, some h, some sh11, u, some ro11, none] ∧ Wd p S0 H S' H' ∧ Same S11 S' ∧ FeQ K S' h b3, ?_, ?_⟩
    · refine ⟨_, rfl, D1, _, 3, .bl b3, rfl, rfl, SqL.of (W11.ss _ _ hsp11), rfl, b3, rfl, ?_⟩
      cases b3 with
      | true =>
        refine ⟨_, rfl, p, S11, rfl, W11.pl, fun v S' H' h1 h2 h3 P' g' => ?_⟩
        obtain ⟨W', s'⟩ := W11.then_ P' g'
        exact ⟨S', v, rfl, W', s', .bad h1 h2 h3⟩
      | false => exact ⟨S11, _, rfl, W11, Same.refl _, .good (by omega) (by omega)⟩
    rintro σ' H' ⟨S12, fe12, rfl, W12, s12, q12⟩
    refine ⟨_, rfl, _, rfl, _, rfl, _, rfl, _, rfl, _, rfl, by show 6 ≤ sizeLine; decide, fun t ht => ?_⟩
    obtain ⟨S13, W13, s13, k13⟩ := W12.new ht (.tup [.ref D1, hd9, po10, sh11, ro11, fe12])
    have s1213 := s12.trans s13
    have s1013 := s11.trans s1213
    exact q t D1 b0 b1 b2 b3 _ _ _ _ _ S13 _ k13 (s1213 _ _ hsp11) (q9.mono (s10.trans s1013)) (q10.mono s1013) (q11.mono s1213) (q12.mono s13) W13.pl W13.gr
end
end WW

set_option Elab.async false
set_option linter.all false
set_option maxRecDepth 100000
set_option maxHeartbeats 4000000
namespace WW
open PySem PySem.Spec PyProof.Rows L2
structure Told5 (K : PySem.W.Frag) (mg : Str → Option Value) (CN CP CG CW CC CE : Addr) : Prop where
  xN : XfC K CN
  cN : ExcC K CN
  nN : PySem.W.findIn K (.ref CN) "value" = some none
  kN : PySem.W.kitOne K (.ref CN) (.ref CE) = some true
  xP : XfC K CP
  cP : ExcC K CP
  nP : PySem.W.findIn K (.ref CP) "value" = some none
  kP : PySem.W.kitOne K (.ref CP) (.ref CE) = some true
  xG : XfC K CG
  cG : ExcC K CG
  nG : PySem.W.findIn K (.ref CG) "value" = some none
  kG : PySem.W.kitOne K (.ref CG) (.ref CE) = some true
  xW : XfC K CW
  cW : ExcC K CW
  nW : PySem.W.findIn K (.ref CW) "value" = some none
  kW : PySem.W.kitOne K (.ref CW) (.ref CE) = some true
  xC : XfC K CC
  cC : ExcC K CC
  nC : PySem.W.findIn K (.ref CC) "value" = some none
  kC : PySem.W.kitOne K (.ref CC) (.ref CE) = some true
  gE : mg "WorksError" = some (.ref CE)
  eNN : PySem.W.exmOne K (.ref CN) (.ref CN) = some true
  ePN : PySem.W.exmOne K (.ref CP) (.ref CN) = some false
  ePP : PySem.W.exmOne K (.ref CP) (.ref CP) = some true
  eGN : PySem.W.exmOne K (.ref CG) (.ref CN) = some false
  eGP : PySem.W.exmOne K (.ref CG) (.ref CP) = some false
  eGG : PySem.W.exmOne K (.ref CG) (.ref CG) = some true
  eWN : PySem.W.exmOne K (.ref CW) (.ref CN) = some false
  eWP : PySem.W.exmOne K (.ref CW) (.ref CP) = some false
  eWG : PySem.W.exmOne K (.ref CW) (.ref CG) = some false
  eWW : PySem.W.exmOne K (.ref CW) (.ref CW) = some true
  eCN : PySem.W.exmOne K (.ref CC) (.ref CN) = some false
  eCP : PySem.W.exmOne K (.ref CC) (.ref CP) = some false
  eCG : PySem.W.exmOne K (.ref CC) (.ref CG) = some false
  eCW : PySem.W.exmOne K (.ref CC) (.ref CW) = some false
  eCC : PySem.W.exmOne K (.ref CC) (.ref CC) = some true
theorem rel_ref {c : Addr} (u : Value) (h : RelV (.ref c) u) : u = .ref c := h
def bo (sn b0 b1 b2 b3 : Bool) (t p g c : V) : Option (Str × V) := if b0 = true then some ("name", t) else if b1 = true then some ("post", p) else if b2 = true then some (if sn = true then "sights" else "words", g) else if b3 = true then some ("cost", c) else none
section
variable {P : Program} {w : World} {K : PySem.W.Frag} {mg : Str → Option Value} {base : Heap} {f fS fL f1 f2 f3 f4 f5 CS CL CN CP CG CW CC CE : Addr} {fd fdS fdL fd1 fd2 fd3 fd4 fd5 : FuncData}
abbrev sLbuilt : Stmt := topS 36
abbrev nLbuilt : List Str := ["_law_is_sensor", "_law_head", "_law_post", "_law_third", "_law_fee", "e"]
theorem scLbuilt : FnScope nLbuilt ["_law_is_sensor", "_law_head", "_law_post", "_law_third", "_law_fee"] (defScope sLbuilt) := ⟨rfl, rfl, rfl, by decide +kernel, rfl, by decide +kernel, by decide +kernel⟩
/-- a new thing x with one part r -/
theorem made {S H H' : Hp} {p x dx r C : Addr} {fs : List (Str × V)} {o : HO} (P0 : Pool S H p) (nx : H x = none) (ndx : H dx = none) (nr : upd (upd H dx (.own x)) x (.ins C dx []) r = none) (k : KeepB x (upd (upd H dx (.own x)) x (.ins C dx [])) H') (hx : H' x = some (.ins C dx fs)) (hr : H' r = some o) :
    ∃ S', Pool S' H' p ∧ Gr p S H S' H' ∧ Same H H' ∧ S' x = some (.ins C dx fs) ∧ S' r = some o := by
  have nrx : r ≠ x := fun z => by rw [z, upd_same] at nr; cases nr
  have nr' : H r = none := by
    rw [upd_ne nrx] at nr
    by_cases e2 : r = dx
    · rw [e2, upd_same] at nr; cases nr
    · rw [upd_ne e2] at nr
      exact nr
  have sHH : Same H H' := keep_same (fun c o h => by
      rw [upd_ne (ne_of_none h nx), upd_ne (ne_of_none h ndx)]
      exact h) nx k
  have sx : S x = none := P0.ss.free nx
  have sr : S r = none := P0.ss.free nr'
  have nxp : x ≠ p := fun z => P0.has (by rw [← z]; exact nx)
  have nrp : r ≠ p := fun z => P0.has (by rw [← z]; exact nr')
  have P1 := (P0.same sHH).fix hx sx nxp
  have g1 := ((Gr.refl (p := p) (S := S) (H := H)).same sHH).fix (o := .ins C dx fs) nx sx
  have sr1 : upd S x (.ins C dx fs) r = none := by
    rw [upd_ne nrx]
    exact sr
  refine ⟨_, P1.fix hr sr1 nrp, g1.fix (o := o) nr' sr1, sHH, ?_, upd_same⟩
  rw [upd_ne (Ne.symm nrx), upd_same]
def spBuilt (K : PySem.W.Frag) (CS CL : Addr) : Sp := fun vs H Q _ => ∃ (pl : Addr) (S : Hp) (sn b0 b1 b2 b3 : Bool) (t p g c : V), vs = [.bl sn, t, p, g, c] ∧ Pool S H pl ∧ HdQ K H t b0 ∧ PoQ K H p b1 ∧ FeQ K H c b3 ∧ (sn = true → SgQ K H g (!b2)) ∧ (sn = false → ∃ o, LwQ K H g o ∧ o.isNone = b2) ∧
  (∀ z v, bo sn b0 b1 b2 b3 t p g c = some (z, v) → ∀ r S' H', Pool S' H' pl → Gr pl S H S' H' → Same H H' → S' r = some (.tup [.str z, v, .bl true]) → Q (.ref r) H') ∧
  (b0 = false → b1 = false → b2 = false → b3 = false → sn = true → ∀ a zs r x S' H', g = .ref a → H a = some (.dK (dS zs)) → goodZ zs → Pool S' H' pl → Gr pl S H S' H' → Same H H' → S' r = some (.tup [.str "told", .ref x]) → SenAt CS S' x t p c (showZ zs) → Q (.ref r) H') ∧
  (b0 = false → b1 = false → b2 = false → b3 = false → sn = false → ∀ zs r x S' H', LwQ K H g (some zs) → Pool S' H' pl → Gr pl S H S' H' → Same H H' → S' r = some (.tup [.str "told", .ref x]) → LokAt CL S' x t p c (zs.mergeSort leS) → Q (.ref r) H')
theorem ok_built (D : Df K mg "_law_built" sLbuilt ["_law_is_sensor", "_law_head", "_law_post", "_law_third", "_law_fee"] f fd)
    (XN : ExcT P w K mg "BadName" CN f1 "value" fd1)
    (XP : ExcT P w K mg "BadPost" CP f2 "value" fd2)
    (XG : ExcT P w K mg "BadSights" CG f3 "value" fd3)
    (XW : ExcT P w K mg "BadWords" CW f4 "value" fd4)
    (XC : ExcT P w K mg "BadCost" CC f5 "value" fd5)
    (T : Bl mg) (E1 : Told5 K mg CN CP CG CW CC CE) (gS : mg "Sensor" = some (.ref CS)) (gL : mg "Lock" = some (.ref CL))
    (MSensor : Mk K CS fS) (GISensor : FnOk P w K mg base (L2.CX P w) 5 fS fdS ["self", "name", "post", "sights", "cost"] (spSInit K CS CN CP CG CC)) (bISensor : Binds K fdS ["self", "name", "post", "sights", "cost"] [])
    (MLock : Mk K CL fL) (GILock : FnOk P w K mg base (L2.CX P w) 5 fL fdL ["self", "name", "post", "words", "cost"] (spLInit K CL CN CP CW CC)) (bILock : Binds K fdL ["self", "name", "post", "words", "cost"] []) :
    FnOk P w K mg base CX0 7 f fd ["_law_is_sensor", "_law_head", "_law_post", "_law_third", "_law_fee"] (spBuilt K CS CL) := by
  refine D.fn.ok scLbuilt (fun vs H Q E h => ?_) (fun cdv A outer s H vs Q E hr h => ?_)
  · obtain ⟨pl, S, sn, b0, b1, b2, b3, t, p, g, c, rfl, _⟩ := h
    rfl
  · obtain ⟨pl, S, sn, b0, b1, b2, b3, t, p, g, c, rfl, P0, h0, h1, h3, hS, hL, qr, qS, qL⟩ := h
    refine ⟨_, (pss_one (ps_try_manyA (Wout := fun _ _ _ _ => False) rfl rfl scLbuilt.nd takes0
        (fun W pn xe tk po => pss_cons (ps_if (pt_val (pv 0)) (pss_one (ps_ret (pe_tup (pa_cons pe_str (pa_cons (pe_makeS MSensor GISensor (hr.mono (by decide)) (by rfl) gS bISensor (fun σ => passAt tk σ) (pa_cons (pv 1) (pa_cons (pv 2) (pa_cons (pv 3) (pa_cons (pv 4) pa_nil))))) pa_nil))))) pss_nil) (pss_one (ps_ret (pe_tup (pa_cons pe_str (pa_cons (pe_makeS MLock GILock (hr.mono (by decide)) (by rfl) gL bILock (fun σ => passAt tk σ) (pa_cons (pv 1) (pa_cons (pv 2) (pa_cons (pv 3) (pa_cons (pv 4) pa_nil))))) pa_nil))))))
        (HdsA.cons (i := 5) (c := .ref CN) rfl rfl ⟨rfl, by decide, .inl XN.gl⟩ (fun a oe cls d pn hz hf => pss_one (ps_ret (pe_tup (pa_cons pe_str (pa_cons (pe_xf E1.xN E1.nN hz hf (pv 5)) (pa_cons (pe_callB (call_isED E1.cN hz hf) (by rfl) T.isinstance (by decide +kernel) (pa_cons (pv 5) (pa_cons (pe_glob (v := .ref CE) (by rfl) E1.gE rfl) pa_nil))) pa_nil))))))
        (HdsA.cons (i := 5) (c := .ref CP) rfl rfl ⟨rfl, by decide, .inl XP.gl⟩ (fun a oe cls d pn hz hf => pss_one (ps_ret (pe_tup (pa_cons pe_str (pa_cons (pe_xf E1.xP E1.nP hz hf (pv 5)) (pa_cons (pe_callB (call_isED E1.cP hz hf) (by rfl) T.isinstance (by decide +kernel) (pa_cons (pv 5) (pa_cons (pe_glob (v := .ref CE) (by rfl) E1.gE rfl) pa_nil))) pa_nil))))))
        (HdsA.cons (i := 5) (c := .ref CG) rfl rfl ⟨rfl, by decide, .inl XG.gl⟩ (fun a oe cls d pn hz hf => pss_one (ps_ret (pe_tup (pa_cons pe_str (pa_cons (pe_xf E1.xG E1.nG hz hf (pv 5)) (pa_cons (pe_callB (call_isED E1.cG hz hf) (by rfl) T.isinstance (by decide +kernel) (pa_cons (pv 5) (pa_cons (pe_glob (v := .ref CE) (by rfl) E1.gE rfl) pa_nil))) pa_nil))))))
        (HdsA.cons (i := 5) (c := .ref CW) rfl rfl ⟨rfl, by decide, .inl XW.gl⟩ (fun a oe cls d pn hz hf => pss_one (ps_ret (pe_tup (pa_cons pe_str (pa_cons (pe_xf E1.xW E1.nW hz hf (pv 5)) (pa_cons (pe_callB (call_isED E1.cW hz hf) (by rfl) T.isinstance (by decide +kernel) (pa_cons (pv 5) (pa_cons (pe_glob (v := .ref CE) (by rfl) E1.gE rfl) pa_nil))) pa_nil))))))
        (HdsA.cons (i := 5) (c := .ref CC) rfl rfl ⟨rfl, by decide, .inl XC.gl⟩ (fun a oe cls d pn hz hf => pss_one (ps_ret (pe_tup (pa_cons pe_str (pa_cons (pe_xf E1.xC E1.nC hz hf (pv 5)) (pa_cons (pe_callB (call_isED E1.cC hz hf) (by rfl) T.isinstance (by decide +kernel) (pa_cons (pv 5) (pa_cons (pe_glob (v := .ref CE) (by rfl) E1.gE rfl) pa_nil))) pa_nil))))))
        HdsA.nil))))))), ?_⟩
    have kp : ∀ {x dx C : Addr} {H' : Hp}, H x = none → H dx = none → KeepB x (upd (upd H dx (.own x)) x (.ins C dx [])) H' → Same H H' := fun {x dx C H'} nx ndx k => keep_same (fun c o h => by
      rw [upd_ne (ne_of_none h nx), upd_ne (ne_of_none h ndx)]
      exact h) nx k
    have sH : ∀ {x dx C : Addr}, H x = none → H dx = none → Same H (upd (upd H dx (.own x)) x (.ins C dx [])) := fun {x dx C} nx ndx c o h => by
      rw [upd_ne (ne_of_none h nx), upd_ne (ne_of_none h ndx)]
      exact h
    obtain ⟨n0, k0⟩ := h0.kd
    obtain ⟨n1, k1⟩ := h1.kd
    obtain ⟨n3, k3⟩ := h3.kd
    have m0 := h0.nm
    have m1 := h1.nm
    have m3 := h3.nm
    have fin : ∀ {H' : Hp} {p' : Addr} {z : Str} {y : V}, Same H H' → H' p' = none → bo sn b0 b1 b2 b3 t p g c = some (z, y) → Q (.ref p') (upd H' p' (.tup [.str z, y, .bl true])) := fun {H' p' z y} s' np e => by
      obtain ⟨S1, W1, s1, h1⟩ := (Wd.more ⟨P0, Gr.refl⟩ s' : Wd pl S H S H').new np (.tup [.str z, y, .bl true])
      exact qr z y e p' S1 _ W1.pl W1.gr (s'.trans (same_upd np)) h1
    refine ⟨_, rfl, sn, rfl, ?_⟩
    cases sn with
    | true =>
      refine ⟨_, rfl, _, rfl, _, rfl, _, rfl, fun x dx nx ndx nxd => ?_⟩
      have hg := hS rfl
      refine ⟨x, dx, H, t, p, g, c, n0, n1, n3, (!b2), rfl, upd_same, sH nx ndx, nx, k0, k1, hg, k3, fun e0 dd H' nd k hd => ?_, fun e0 e1 dd H' nd k hd => ?_, fun e0 e1 e2 dd H' nd k hd => ?_, fun e0 e1 e2 e3 dd H' nd k hd => ?_, fun e0 e1 e2 e3 a zs r H' eg ha hz nr nrx k hx hr' => ?_⟩
      · refine ⟨true, E1.eNN, fun _ a na => ?_, (fun z => by cases z)⟩
        refine ⟨_, rfl, rfl, rfl, dd, _, _, rfl, hd, by simp [List.lookup]; rfl, _, rfl, rfl, dd, _, rfl, hd, _, _, _, rfl, rel_ref, E1.kN, ?_⟩
        exact ⟨by show 3 ≤ sizeLine; decide, fun p' np => fin (kp nx ndx k) np (by have e0 : b0 = true := (by rw [m0] at e0; simpa using e0); subst e0; rfl)⟩
      · refine ⟨false, E1.ePN, (fun z => by cases z), fun _ => ⟨true, E1.ePP, fun _ a na => ?_, (fun z => by cases z)⟩⟩
        refine ⟨_, rfl, rfl, rfl, dd, _, _, rfl, hd, by simp [List.lookup]; rfl, _, rfl, rfl, dd, _, rfl, hd, _, _, _, rfl, rel_ref, E1.kP, ?_⟩
        exact ⟨by show 3 ≤ sizeLine; decide, fun p' np => fin (kp nx ndx k) np (by have e0 : b0 = false := (by rw [m0] at e0; simpa using e0); have e1 : b1 = true := (by rw [m1] at e1; simpa using e1); subst e0 e1; rfl)⟩
      · refine ⟨false, E1.eGN, (fun z => by cases z), fun _ => ⟨false, E1.eGP, (fun z => by cases z), fun _ => ⟨true, E1.eGG, fun _ a na => ?_, (fun z => by cases z)⟩⟩⟩
        refine ⟨_, rfl, rfl, rfl, dd, _, _, rfl, hd, by simp [List.lookup]; rfl, _, rfl, rfl, dd, _, rfl, hd, _, _, _, rfl, rel_ref, E1.kG, ?_⟩
        exact ⟨by show 3 ≤ sizeLine; decide, fun p' np => fin (kp nx ndx k) np (by have e0 : b0 = false := (by rw [m0] at e0; simpa using e0); have e1 : b1 = false := (by rw [m1] at e1; simpa using e1); have e2 : b2 = true := (by simpa using e2); subst e0 e1 e2; rfl)⟩
      · refine ⟨false, E1.eCN, (fun z => by cases z), fun _ => ⟨false, E1.eCP, (fun z => by cases z), fun _ => ⟨false, E1.eCG, (fun z => by cases z), fun _ => ⟨false, E1.eCW, (fun z => by cases z), fun _ => ⟨true, E1.eCC, fun _ a na => ?_, (fun z => by cases z)⟩⟩⟩⟩⟩
        refine ⟨_, rfl, rfl, rfl, dd, _, _, rfl, hd, by simp [List.lookup]; rfl, _, rfl, rfl, dd, _, rfl, hd, _, _, _, rfl, rel_ref, E1.kC, ?_⟩
        exact ⟨by show 3 ≤ sizeLine; decide, fun p' np => fin (kp nx ndx k) np (by have e0 : b0 = false := (by rw [m0] at e0; simpa using e0); have e1 : b1 = false := (by rw [m1] at e1; simpa using e1); have e2 : b2 = false := (by simpa using e2); have e3 : b3 = true := (by rw [m3] at e3; simpa using e3); rw [e0, e1, e2, e3]; rfl)⟩
      · refine ⟨rfl, by show 2 ≤ sizeLine; decide, fun p' np => ?_⟩
        have e0 : b0 = false := (by rw [m0] at e0; simpa using e0)
        have e1 : b1 = false := (by rw [m1] at e1; simpa using e1)
        have e2 : b2 = false := (by simpa using e2)
        have e3 : b3 = false := (by rw [m3] at e3; simpa using e3)
        obtain ⟨S1, P1, g1, sH1, hx1, hr1⟩ := made P0 nx ndx nr k hx hr'
        obtain ⟨S2, W2, s2, h2⟩ := (⟨P1, g1⟩ : Wd pl S H S1 H').new np (.tup [.str "told", .ref x])
        exact qS e0 e1 e2 e3 rfl a zs p' x S2 _ eg ha hz W2.pl W2.gr (sH1.trans (same_upd np)) h2 ⟨dx, r, s2 _ _ hx1, s2 _ _ hr1⟩
    | false =>
      refine ⟨_, rfl, _, rfl, _, rfl, _, rfl, fun x dx nx ndx nxd => ?_⟩
      obtain ⟨o, ho, eo⟩ := hL rfl
      refine ⟨x, dx, H, t, p, g, c, n0, n1, n3, o, rfl, upd_same, sH nx ndx, nx, k0, k1, ho, k3, fun e0 dd H' nd k hd => ?_, fun e0 e1 dd H' nd k hd => ?_, fun e0 e1 e2 dd H' nd k hd => ?_, fun e0 e1 e2 e3 dd H' nd k hd => ?_, fun e0 e1 e3 zs r H' e2 nr nrx k hx hr' => ?_⟩
      · refine ⟨true, E1.eNN, fun _ a na => ?_, (fun z => by cases z)⟩
        refine ⟨_, rfl, rfl, rfl, dd, _, _, rfl, hd, by simp [List.lookup]; rfl, _, rfl, rfl, dd, _, rfl, hd, _, _, _, rfl, rel_ref, E1.kN, ?_⟩
        exact ⟨by show 3 ≤ sizeLine; decide, fun p' np => fin (kp nx ndx k) np (by have e0 : b0 = true := (by rw [m0] at e0; simpa using e0); subst e0; rfl)⟩
      · refine ⟨false, E1.ePN, (fun z => by cases z), fun _ => ⟨true, E1.ePP, fun _ a na => ?_, (fun z => by cases z)⟩⟩
        refine ⟨_, rfl, rfl, rfl, dd, _, _, rfl, hd, by simp [List.lookup]; rfl, _, rfl, rfl, dd, _, rfl, hd, _, _, _, rfl, rel_ref, E1.kP, ?_⟩
        exact ⟨by show 3 ≤ sizeLine; decide, fun p' np => fin (kp nx ndx k) np (by have e0 : b0 = false := (by rw [m0] at e0; simpa using e0); have e1 : b1 = true := (by rw [m1] at e1; simpa using e1); subst e0 e1; rfl)⟩
      · refine ⟨false, E1.eWN, (fun z => by cases z), fun _ => ⟨false, E1.eWP, (fun z => by cases z), fun _ => ⟨false, E1.eWG, (fun z => by cases z), fun _ => ⟨true, E1.eWW, fun _ a na => ?_, (fun z => by cases z)⟩⟩⟩⟩
        refine ⟨_, rfl, rfl, rfl, dd, _, _, rfl, hd, by simp [List.lookup]; rfl, _, rfl, rfl, dd, _, rfl, hd, _, _, _, rfl, rel_ref, E1.kW, ?_⟩
        exact ⟨by show 3 ≤ sizeLine; decide, fun p' np => fin (kp nx ndx k) np (by have e0 : b0 = false := (by rw [m0] at e0; simpa using e0); have e1 : b1 = false := (by rw [m1] at e1; simpa using e1); have e2 : b2 = true := (by rw [← eo, e2]; rfl); rw [e0, e1, e2]; rfl)⟩
      · refine ⟨false, E1.eCN, (fun z => by cases z), fun _ => ⟨false, E1.eCP, (fun z => by cases z), fun _ => ⟨false, E1.eCG, (fun z => by cases z), fun _ => ⟨false, E1.eCW, (fun z => by cases z), fun _ => ⟨true, E1.eCC, fun _ a na => ?_, (fun z => by cases z)⟩⟩⟩⟩⟩
        refine ⟨_, rfl, rfl, rfl, dd, _, _, rfl, hd, by simp [List.lookup]; rfl, _, rfl, rfl, dd, _, rfl, hd, _, _, _, rfl, rel_ref, E1.kC, ?_⟩
        exact ⟨by show 3 ≤ sizeLine; decide, fun p' np => fin (kp nx ndx k) np (by have e0 : b0 = false := (by rw [m0] at e0; simpa using e0); have e1 : b1 = false := (by rw [m1] at e1; simpa using e1); have e2 : b2 = false := (by rw [← eo]; cases o <;> simp_all); have e3 : b3 = true := (by rw [m3] at e3; simpa using e3); rw [e0, e1, e2, e3]; rfl)⟩
      · refine ⟨rfl, by show 2 ≤ sizeLine; decide, fun p' np => ?_⟩
        have e0 : b0 = false := (by rw [m0] at e0; simpa using e0)
        have e1 : b1 = false := (by rw [m1] at e1; simpa using e1)
        have e2' : b2 = false := (by rw [← eo, e2]; rfl)
        have e3 : b3 = false := (by rw [m3] at e3; simpa using e3)
        obtain ⟨S1, P1, g1, sH1, hx1, hr1⟩ := made P0 nx ndx nr k hx hr'
        obtain ⟨S2, W2, s2, h2⟩ := (⟨P1, g1⟩ : Wd pl S H S1 H').new np (.tup [.str "told", .ref x])
        exact qL e0 e1 e2' e3 rfl zs p' x S2 _ (e2 ▸ ho) W2.pl W2.gr (sH1.trans (same_upd np)) h2 ⟨dx, r, s2 _ _ hx1, s2 _ _ hr1⟩
end
end WW

set_option Elab.async false
set_option linter.all false
set_option maxRecDepth 100000
set_option maxHeartbeats 4000000
namespace WW
open PySem PySem.Spec PyProof.Rows L2
def spF (bs : List Bool) (v : V) : Option V := match v with
  | .int k => if (bs[k.toNat]?).getD false = true then some v else none
  | _ => none
theorem first_at (b0 b1 b2 b3 : Bool) (h : [b0, b1, b2, b3].idxOf true < 4) : atI ((rngV 0 4).filterMap (spF [b0, b1, b2, b3])) 0 = some (.int (([b0, b1, b2, b3].idxOf true : Nat) : Int)) := by
  revert h
  cases b0 <;> cases b1 <;> cases b2 <;> cases b3 <;> decide
theorem pair_get2 {α β : Type} {R : α → β → Prop} : ∀ {xs : List α} {ts : List β}, Paired R xs ts → xs.length = ts.length
  | _, _, .nil => rfl
  | _, _, .cons _ t => by rw [List.length_cons, List.length_cons, pair_get2 t]
theorem pair_map {α β : Type} {R R' : α → β → Prop} (h : ∀ a b, R a b → R' a b) : ∀ {xs : List α} {ts : List β}, Paired R xs ts → Paired R' xs ts
  | _, _, .nil => .nil
  | _, _, .cons r t => .cons (h _ _ r) (pair_map h t)
def pD (p : Str × Str) : PyData := .tuple [.str p.1, .str p.2]
theorem pairs_dp {K : PySem.W.Frag} {H : Hp} : ∀ {ts : List Addr} {zs : ZZ}, Paired (fun (t : Addr) (p : Str × Str) => H t = some (.tup [.str p.1, .str p.2])) ts zs → DpAll K H (ts.map V.ref) (zs.map pD)
  | _, _, .nil => .nil
  | _, _, .cons r t => .cons (.tup (SqT.of r) (.cons (.str _) (.cons (.str _) .nil))) (pairs_dp t)
theorem pairs_sz {zs : ZZ} (h : ∀ p ∈ zs, NameOk p.1 ∧ NameOk p.2) (l : zs.length ≤ 900) : Sz 2 (.list (zs.map pD)) = true := by
  refine szT (fun d hd => ?_) (by rw [List.length_map]; exact l)
  obtain ⟨p, hp, rfl⟩ := List.mem_map.mp hd
  refine szT (fun e he => ?_) (by show 2 ≤ 900; decide)
  simp only [List.mem_cons, List.not_mem_nil, or_false] at he
  rcases he with rfl | rfl
  · exact szS (name_sok (h p hp).1) (Nat.le_trans (h p hp).1.2.1 (by decide))
  · exact szS (name_sok (h p hp).2) (Nat.le_trans (h p hp).2.2.1 (by decide))
theorem names_sz {zs : List Str} (h : ∀ z ∈ zs, NameOk z) (l : zs.length ≤ 900) : Sz 4 (.list (zs.map PyData.str)) = true := by
  refine szT (fun d hd => ?_) (by rw [List.length_map]; exact l)
  obtain ⟨z, hz, rfl⟩ := List.mem_map.mp hd
  exact szS (name_sok (h z hz)) (Nat.le_trans (h z hz).2.1 (by decide))
theorem sort_mem {zs : List Str} {z : Str} : z ∈ zs.mergeSort leS ↔ z ∈ zs := (List.mergeSort_perm _ _).mem_iff
theorem show_mem {zs : ZZ} (nd : (zs.map (·.1)).Nodup) {p : Str × Str} : p ∈ showZ zs ↔ p ∈ zs := by
  unfold showZ
  rw [List.mem_map]
  constructor
  · rintro ⟨y, hy, rfl⟩
    rw [sort_mem] at hy
    obtain ⟨q, hq, rfl⟩ := List.mem_map.mp hy
    rw [look_mem nd hq]
    exact hq
  · intro hp
    exact ⟨p.1, sort_mem.mpr (List.mem_map.mpr ⟨p, hp, rfl⟩), by rw [look_mem nd hp]; rfl⟩
theorem show_len (zs : ZZ) : (showZ zs).length = zs.length := by
  unfold showZ
  rw [List.length_map, List.length_mergeSort, List.length_map]
theorem show_nd {zs : ZZ} (nd : (zs.map (·.1)).Nodup) : ((showZ zs).map (·.1)).Nodup := by
  rw [keys_showZ]
  exact (List.mergeSort_perm _ _).nodup_iff.mpr nd
theorem valS_look (zs : ZZ) (y : Str) : valS (kS2 zs) (Sum.inr y) = look zs y := by
  unfold valS kS2 look
  induction zs with
  | nil => rfl
  | cons p r ih =>
    rw [List.map_cons, List.find?_cons, List.find?_cons]
    by_cases h : p.1 = y
    · simp [h]
    · have h' : ¬ (Sum.inr p.1 : Key) = Sum.inr y := fun e => h (Sum.inr.inj e)
      simp only [h, h', decide_false]
      exact ih
theorem look_some {zs : ZZ} {y z : Str} (h : look zs y = some z) : (y, z) ∈ zs := by
  unfold look at h
  cases e : zs.find? fun p => decide (p.1 = y) with
  | none => rw [e] at h; cases h
  | some p =>
    rw [e] at h
    cases h
    have h1 := List.find?_some e
    have h2 := List.mem_of_find?_eq_some e
    have h1 : p.1 = y := of_decide_eq_true h1
    rw [← h1]
    exact h2
/-- the same pairs -/
theorem sameZ_iff {zs ys : ZZ} (n1 : (zs.map (·.1)).Nodup) (n2 : (ys.map (·.1)).Nodup) : sameZ zs ys = true ↔ ∀ p, p ∈ zs ↔ p ∈ ys := by
  have l1 : (kS2 zs).length = zs.length := List.length_map ..
  have l2 : (kS2 ys).length = ys.length := List.length_map ..
  have pnd : ∀ {l : ZZ}, (l.map (·.1)).Nodup → l.Nodup := fun {l} n => (List.pairwise_map.mp n).imp fun {a b} h e => h (by rw [e])
  have all : ((kS2 zs).all fun p => decide (valS (kS2 ys) p.1 = some p.2)) = true ↔ ∀ p ∈ zs, p ∈ ys := by
    rw [List.all_eq_true]
    constructor
    · intro h p hp
      have := of_decide_eq_true (h (Sum.inr p.1, p.2) (List.mem_map.mpr ⟨p, hp, rfl⟩))
      rw [valS_look] at this
      exact look_some this
    · intro h q hq
      obtain ⟨p, hp, rfl⟩ := List.mem_map.mp hq
      refine decide_eq_true ?_
      rw [valS_look]
      exact look_mem n2 (h p hp)
  unfold sameZ sameS
  rw [Bool.and_eq_true, all, l1, l2, beq_iff_eq]
  constructor
  · rintro ⟨hl, h⟩ p
    refine ⟨h p, fun hp => ?_⟩
    by_cases c : p ∈ zs
    · exact c
    exfalso
    have := pigeon (p :: zs) ys (List.nodup_cons.mpr ⟨c, pnd n1⟩) (fun q hq => by
      rcases List.mem_cons.mp hq with rfl | hq
      · exact hp
      · exact h q hq)
    rw [List.length_cons] at this
    omega
  · intro h
    have p := nodup_mem_perm (pnd n1) (pnd n2) h
    exact ⟨p.length_eq, fun q hq => (h q).mp hq⟩
section
variable {P : Program} {w : World} {K : PySem.W.Frag} {mg : Str → Option Value} {base : Heap} {f fA g1 g2 g3 g4 p1 p2 p3 p4 C CS CL : Addr} {fd fdA fd1 fd2 fd3 fd4 : FuncData}
abbrev sLrefused : Stmt := topS 37
abbrev nLrefused : List Str := ["_law_found", "_law_spoils", "_law_given", "_law_kinds", "_law_at", "_law_k"]
theorem scLrefused : FnScope nLrefused ["_law_found", "_law_spoils", "_law_given", "_law_kinds"] (defScope sLrefused) := ⟨rfl, rfl, rfl, by decide +kernel, rfl, by decide +kernel, by decide +kernel⟩
def spRef (K : PySem.W.Frag) : Sp := fun vs H Q _ => ∃ (a sp gv kn : Addr) (b0 b1 b2 b3 : Bool) (xs : List V) (ks : List Str) (z : Str) (v x : V), vs = [.ref a, .ref sp, .ref gv, .ref kn] ∧ H sp = some (.lst ([b0, b1, b2, b3].map V.bl)) ∧ [b0, b1, b2, b3].idxOf true < 4 ∧ H gv = some (.lst xs) ∧ xs[[b0, b1, b2, b3].idxOf true]? = some x ∧ H kn = some (.lst (ks.map V.str)) ∧ ks[[b0, b1, b2, b3].idxOf true]? = some z ∧
  H a = some (.tup [.str z, v, .bl true]) ∧ AlQ K H 4 v x ∧ ∀ H', Same H H' → Q (.bl true) H'
theorem ok_refused (D : Df K mg "_law_refused" sLrefused ["_law_found", "_law_spoils", "_law_given", "_law_kinds"] f fd) (DLalike : Df K mg "_law_alike" sLalike ["_law_one", "_law_other"] fA fdA) (GLalike : FnOk P w K mg base CX0 6 fA fdA ["_law_one", "_law_other"] (spAl K 5)) (T : Bl mg) :
    FnOk P w K mg base CX0 7 f fd ["_law_found", "_law_spoils", "_law_given", "_law_kinds"] (spRef K) := by
  refine D.fn.ok scLrefused (fun vs H Q E h => ?_) (fun cdv A outer s H vs Q E hr h => ?_)
  · obtain ⟨a, sp, gv, kn, b0, b1, b2, b3, xs, ks, z, v, x, rfl, _⟩ := h
    rfl
  · obtain ⟨a, sp, gv, kn, b0, b1, b2, b3, xs, ks, z, v, x, rfl, hsp, hi, hgv, hx, hkn, hz, ha, hal, q⟩ := h
    refine ⟨_, (pss_cons (ps_set (i := 4) scLrefused.nd rfl (Or.inl rfl) (pe_ix ix_list (pe_lc (own := [("_law_k", 5)]) rfl scLrefused.nd (pi_range1 (by rfl) T.range (pa_cons pe_int pa_nil)) (blkOk_by (own := [("_law_k", 5)]) (N := nLrefused) (sc := defScope sLrefused) (by decide +kernel)) (fun _ _ _ _ _ => (pg_name (i := 5) scLrefused.nd rfl (Or.inl rfl))) (fun _ _ _ _ _ => (pts_one (pt_val (pe_ix (r := rIxL K) ix_list (pv 1) (pv 5) (fun _ _ => rfl))))) (fun _ _ _ _ _ => (pv 5))) pe_int (fun _ _ => rfl)))
      (pss_one (ps_ret (pe_and (pe_cmpR op_eq (pe_ix ix_tup (pv 0) pe_int (fun _ _ => rfl)) (pe_ix ix_list (pv 3) (pv 4) (fun _ _ => rfl)) (nomark _)) (pe_and (pe_ix ix_tup (pv 0) pe_int (fun _ _ => rfl)) (pe_one (pe_df DLalike GLalike (hr.mono (by decide)) (pa_cons (pe_ix ix_tup (pv 0) pe_int (fun _ _ => rfl)) (pa_cons (pe_ix ix_list (pv 2) (pv 4) (fun _ _ => rfl)) pa_nil))))))))), ?_⟩
    refine ⟨4, rfl, by decide, by decide, fun D1 hD1 => lc_pureR (spF [b0, b1, b2, b3]) (by decide) (fun _ => rfl) (fun y H2 hy s2 Q2 q2 => ?_) hD1 (fun H2 s2 h2 => ?_)⟩
    · obtain ⟨k, hk, rfl⟩ := List.mem_map.mp hy
      have hk : k < 4 := List.mem_range.mp hk
      obtain ⟨b, eb⟩ : ∃ b, [b0, b1, b2, b3][k]? = some b := ⟨_, List.getElem?_eq_getElem hk⟩
      refine ⟨_, rfl, _, rfl, sp, _, _, .bl b, rfl, rfl, SqL.of (s2 _ _ hsp), at_ofG (j := k) (by omega) (by rw [List.getElem?_map, eb]; rfl), b, rfl, ?_⟩
      have e : spF [b0, b1, b2, b3] (.int (0 + (k : Nat))) = if b = true then some (.int (0 + (k : Nat))) else none := by
        unfold spF
        show (if (([b0, b1, b2, b3])[((0 : Int) + (k : Nat)).toNat]?).getD false = true then _ else _) = _
        rw [show ((0 : Int) + (k : Nat)).toNat = k by omega, eb]
        rfl
      rw [e] at q2
      cases b with
      | true => exact ⟨_, rfl, q2 H2 (Same.refl _)⟩
      | false => exact q2 H2 (Same.refl _)
    · refine ⟨D1, _, 0, _, rfl, rfl, SqL.of h2, first_at b0 b1 b2 b3 hi, ?_⟩
      refine ⟨_, rfl, a, _, 0, .str z, rfl, rfl, SqT.of (s2 _ _ ha), rfl, _, rfl, _, rfl, kn, _, _, .str z, rfl, rfl, SqL.of (s2 _ _ hkn), atI_nat (by rw [List.getElem?_map, hz]; rfl), rfl, _, rfl, ?_⟩
      rw [decide_eq_true rfl]
      refine ⟨_, rfl, a, _, 2, .bl true, rfl, rfl, SqT.of (s2 _ _ ha), rfl, _, rfl, ?_⟩
      refine ⟨_, rfl, a, _, 1, v, rfl, rfl, SqT.of (s2 _ _ ha), rfl, _, rfl, _, rfl, gv, _, _, x, rfl, rfl, SqL.of (s2 _ _ hgv), atI_nat hx, ?_⟩
      exact ⟨v, x, rfl, hal.mono s2, fun H3 s3 => q H3 (s2.trans s3)⟩
/-- an instrument of the class C: what a walk needs -/
structure TellC (K : PySem.W.Frag) (C : Addr) (At : Hp → Addr → V → V → V → List Str → Prop) (spW : Sp) : Prop where
  mono : ∀ {H H' : Hp} {a : Addr} {t p c : V} {ys : List Str}, Same H H' → At H a t p c ys → At H' a t p c ys
  ins : ∀ {H : Hp} {a : Addr} {t p c : V} {ys : List Str}, At H a t p c ys → ∃ dx fs, H a = some (.ins C dx fs) ∧ Fl fs t p c
  run : ∀ {H : Hp} {a : Addr} {t p c : V} {ys : List Str} {Q : VK} {E : XK}, At H a t p c ys → (∀ r, H r = none → Q (.ref r) (upd H r (.lst (ys.map V.str)))) → spW [.ref a] H Q E
abbrev sLtells : Stmt := topS 38
abbrev nLtells : List Str := ["_law_one", "_law_head", "_law_post", "_law_words", "_law_fee", "_law_said"]
theorem scLtells : FnScope nLtells ["_law_one", "_law_head", "_law_post", "_law_words", "_law_fee"] (defScope sLtells) := ⟨rfl, rfl, rfl, by decide +kernel, rfl, by decide +kernel, by decide +kernel⟩
def spTells (At : Hp → Addr → V → V → V → List Str → Prop) : Sp := fun vs H Q _ => ∃ (a wa : Addr) (t : Str) (p c : Int) (zs : List Str), vs = [.ref a, .str t, .int p, .ref wa, .int c] ∧ NameOk t ∧ At H a (.str t) (.int p) (.int c) (zs.mergeSort leS) ∧ H wa = some (.lst (zs.map V.str)) ∧ (∀ z ∈ zs, NameOk z) ∧ zs.length ≤ 60 ∧ ∀ H', Same H H' → Q (.bl true) H'
theorem ok_tells {At : Hp → Addr → V → V → V → List Str → Prop} {spW : Sp} (D : Df K mg "_law_tells" sLtells ["_law_one", "_law_head", "_law_post", "_law_words", "_law_fee"] f fd) (DLalike : Df K mg "_law_alike" sLalike ["_law_one", "_law_other"] fA fdA) (GLalike : FnOk P w K mg base CX0 6 fA fdA ["_law_one", "_law_other"] (spAl K 5)) (T : Bl mg)
    (kl : Kl K C) (tc : TellC K C At spW) (pN : PropOf K C "name" p1 g1) (GN : FnOk P w K mg base CX0 1 g1 fd1 ["self"] (spFl K fun t _ _ => t)) (bN : Binds K fd1 ["self"] [])
    (pP : PropOf K C "post" p2 g2) (GP : FnOk P w K mg base CX0 1 g2 fd2 ["self"] (spFl K fun _ p _ => p)) (bP : Binds K fd2 ["self"] [])
    (pC : PropOf K C "cost" p3 g3) (GC : FnOk P w K mg base CX0 1 g3 fd3 ["self"] (spFl K fun _ _ c => c)) (bC : Binds K fd3 ["self"] [])
    (pW : PropOf K C "words" p4 g4) (GW : FnOk P w K mg base CX0 1 g4 fd4 ["self"] spW) (bW : Binds K fd4 ["self"] []) : FnOk P w K mg base CX0 7 f fd ["_law_one", "_law_head", "_law_post", "_law_words", "_law_fee"] (spTells At) := by
  refine D.fn.ok scLtells (fun vs H Q E h => ?_) (fun cdv A outer s H vs Q E hr h => ?_)
  · obtain ⟨a, wa, t, p, c, zs, rfl, _⟩ := h
    rfl
  · obtain ⟨a, wa, t, p, c, zs, rfl, nt, hat, hwa, okz, lz, q⟩ := h
    refine ⟨_, (pss_cons (ps_if (PW.pt (pw_or (pt_not (pt_val (pe_df DLalike GLalike (hr.mono (by decide)) (pa_cons (pe_prop (pv 0) kl.cl pN GN (hr.mono (by decide)) bN .nil pass0 rfl) (pa_cons (pv 1) pa_nil))))) (pw_or (pt_not (pt_val (pe_df DLalike GLalike (hr.mono (by decide)) (pa_cons (pe_prop (pv 0) kl.cl pP GP (hr.mono (by decide)) bP .nil pass0 rfl) (pa_cons (pv 2) pa_nil))))) (pw_or1 (pt_not (pt_val (pe_df DLalike GLalike (hr.mono (by decide)) (pa_cons (pe_prop (pv 0) kl.cl pC GC (hr.mono (by decide)) bC .nil pass0 rfl) (pa_cons (pv 4) pa_nil))))))))) (pss_one (ps_ret pe_bl)) pss_nil)
      (pss_cons (ps_set (i := 5) scLtells.nd rfl (Or.inl rfl) (pe_prop (pv 0) kl.cl pW GW (hr.mono (by decide)) bW .nil pass0 rfl))
      (pss_cons (ps_if (pt_not (pt_val (pe_df DLalike GLalike (hr.mono (by decide)) (pa_cons (pv 5) (pa_cons (pe_callB (cr_sortedD (hu70 hr)) (by rfl) T.sorted (by decide +kernel) (pa_cons (pv 3) pa_nil)) pa_nil))))) (pss_one (ps_ret pe_bl)) pss_nil)
      (pss_cons (ps_expr (pe_bm PySem.F.plainAttrs_list PySem.F.slot_list_append PySem.F.type_list_append mt_append (pv 5) (pa_cons pe_str pa_nil)))
      (pss_one (ps_ret (pe_df DLalike GLalike (hr.mono (by decide)) (pa_cons (pe_prop (pv 0) kl.cl pW GW (hr.mono (by decide)) bW .nil pass0 rfl) (pa_cons (pe_callB (cr_sortedD (hu70 hr)) (by rfl) T.sorted (by decide +kernel) (pa_cons (pv 3) pa_nil)) pa_nil))))))))), ?_⟩
    have fld : ∀ {H' : Hp} {g : V → V → V → V} {Q' : VK} {E' : XK}, Same H H' → Q' (g (.str t) (.int p) (.int c)) H' → ∃ a' dx fs, V.ref a = .ref a' ∧ H' a' = some (.ins C dx fs) ∧ spFl K g [.ref a'] H' Q' E' := fun {H' g Q' E'} s' q' => by
      obtain ⟨dx, fs, h1, h2⟩ := tc.ins (tc.mono s' hat)
      exact ⟨a, dx, fs, rfl, h1, a, dx, C, fs, _, _, _, rfl, h1, kl, h2, q'⟩
    have wds : ∀ {H' : Hp} {Q' : VK} {E' : XK}, Same H H' → (∀ r, H' r = none → Q' (.ref r) (upd H' r (.lst ((zs.mergeSort leS).map V.str)))) → ∃ a' dx fs, V.ref a = .ref a' ∧ H' a' = some (.ins C dx fs) ∧ spW [.ref a'] H' Q' E' := fun {H' Q' E'} s' q' => by
      obtain ⟨dx, fs, h1, h2⟩ := tc.ins (tc.mono s' hat)
      exact ⟨a, dx, fs, rfl, h1, tc.run (tc.mono s' hat) q'⟩
    have strq : ∀ {H' : Hp}, Same H H' → SqL K H' wa ((strP zs).map (·.1)) := fun {H'} s' => by
      rw [strP_fst]
      exact SqL.of (s' _ _ hwa)
    have okm : ∀ z ∈ zs.mergeSort leS, NameOk z := fun z hz => okz z (sort_mem.mp hz)
    have lm : (zs.mergeSort leS).length ≤ 900 := by rw [List.length_mergeSort]; omega
    have alk : ∀ {H' : Hp} {r1 r2 : Addr}, H' r1 = some (.lst ((zs.mergeSort leS).map V.str)) → H' r2 = some (.lst ((zs.mergeSort leS).map V.str)) → AlQ K H' 4 (.ref r1) (.ref r2) := fun {H' r1 r2} h1 h2 =>
      .dat (.lst (SqL.of h1) (strs_dp _)) (.lst (SqL.of h2) (strs_dp _)) (names_sz okm lm)
    refine ⟨_, rfl, ?_⟩
    refine fld (Same.refl _) ⟨_, rfl, _, _, rfl, .dat (.str t) (.str t) (szS (name_sok nt) (Nat.le_trans nt.2.1 (by decide))), fun H1 s1 => ⟨_, rfl, ?_⟩⟩
    refine ⟨_, rfl, ?_⟩
    refine fld s1 ⟨_, rfl, _, _, rfl, .dat (.int p) (.int p) rfl, fun H2 s2 => ⟨_, rfl, ?_⟩⟩
    refine ⟨_, rfl, ?_⟩
    refine fld (s1.trans s2) ⟨_, rfl, _, _, rfl, .dat (.int c) (.int c) rfl, fun H3 s3 => ⟨_, rfl, ?_⟩⟩
    have s03 := s1.trans (s2.trans s3)
    refine ⟨_, rfl, ?_⟩
    refine wds s03 fun r1 n1 => ?_
    have s04 := s03.trans (same_upd (o := .lst ((zs.mergeSort leS).map V.str)) n1)
    refine ⟨_, rfl, _, rfl, ?_⟩
    refine ⟨wa, strP zs, rfl, .inl (strq s04), strP_dp zs, (strP_ok zs).1, (strP_ok zs).2, strP_depth zs, fun r2 n2 => ?_⟩
    rw [strP_srt]
    have s45 := same_upd (o := .lst ((zs.mergeSort leS).map V.str)) n2
    refine ⟨_, _, rfl, alk (s45 _ _ upd_same) upd_same, fun H5 s5 => ⟨_, rfl, ?_⟩⟩
    have h5 : H5 r1 = some (.lst ((zs.mergeSort leS).map V.str)) := s5 _ _ (s45 _ _ upd_same)
    have s05 : Same H H5 := s04.trans (s45.trans s5)
    refine ⟨_, rfl, .inl ⟨rfl, _, SqL.of h5⟩, r1, _, _, rfl, rfl, h5, by rw [List.length_map]; exact small1000 (by omega), ?_⟩
    have s06 : Same H (upd H5 r1 (.lst ((zs.mergeSort leS).map V.str ++ [.str "a"]))) := fun b o hb => by
      rw [upd_ne (fun e => by rw [e, s03.free n1] at hb; cases hb)]
      exact s05 _ _ hb
    generalize upd H5 r1 (.lst ((zs.mergeSort leS).map V.str ++ [.str "a"])) = H6 at s06 ⊢
    refine ⟨_, rfl, ?_⟩
    refine wds s06 fun r3 n3 => ?_
    have s07 := s06.trans (same_upd (o := .lst ((zs.mergeSort leS).map V.str)) n3)
    refine ⟨_, rfl, ?_⟩
    refine ⟨wa, strP zs, rfl, .inl (strq s07), strP_dp zs, (strP_ok zs).1, (strP_ok zs).2, strP_depth zs, fun r4 n4 => ?_⟩
    rw [strP_srt]
    have s78 := same_upd (o := .lst ((zs.mergeSort leS).map V.str)) n4
    exact ⟨_, _, rfl, alk (s78 _ _ upd_same) upd_same, fun H8 s8 => q H8 (s07.trans (s78.trans s8))⟩
end
end WW

set_option Elab.async false
set_option linter.all false
set_option maxRecDepth 100000
set_option maxHeartbeats 4000000
namespace WW
open PySem PySem.Spec PyProof.Rows L2
theorem keys_dS (zs : ZZ) : (dS zs).map (·.1) = (zs.map (·.1)).map Sum.inr := by
  unfold dS
  rw [List.map_map, List.map_map]
  rfl
theorem pair_dS {H : Hp} {ts : List Addr} {zs : ZZ} (h : Paired (fun (t : Addr) (q : Key × V) => H t = some (.tup [kV q.1, q.2])) ts (dS zs)) : Paired (fun (t : Addr) (p : Str × Str) => H t = some (.tup [.str p.1, .str p.2])) ts zs := by
  induction zs generalizing ts with
  | nil => cases h; exact .nil
  | cons p r ih =>
    cases h with
    | cons a b => exact .cons a (ih b)
section
variable {P : Program} {w : World} {K : PySem.W.Frag} {mg : Str → Option Value} {base : Heap} {f gS pS CS : Addr} {fd fdS : FuncData}
abbrev sLsensor_tells : Stmt := topS 39
abbrev nLsensor_tells : List Str := ["_law_one", "_law_shown", "_law_said", "_law_word"]
theorem scLsensor_tells : FnScope nLsensor_tells ["_law_one", "_law_shown"] (defScope sLsensor_tells) := ⟨rfl, rfl, rfl, by decide +kernel, rfl, by decide +kernel, by decide +kernel⟩
def spSTells (CS : Addr) : Sp := fun vs H Q _ => ∃ (a sh : Addr) (t p c : V) (zs : ZZ), vs = [.ref a, .ref sh] ∧ SenAt CS H a t p c (showZ zs) ∧ H sh = some (.dK (dS zs)) ∧ goodZ zs ∧ ∀ H', Same H H' → Q (.bl true) H'
theorem ok_stells (D : Df K mg "_law_sensor_tells" sLsensor_tells ["_law_one", "_law_shown"] f fd) (T : Bl mg) (Tdict : mg "dict" = none) (kS : Kl K CS) (pSS : PropOf K CS "sights" pS gS) (GSS : FnOk P w K mg base CX0 1 gS fdS ["self"] (spSights K CS)) (bSS : Binds K fdS ["self"] []) :
    FnOk P w K mg base CX0 3 f fd ["_law_one", "_law_shown"] (spSTells CS) := by
  refine D.fn.ok scLsensor_tells (fun vs H Q E h => ?_) (fun cdv A outer s H vs Q E hr h => ?_)
  · obtain ⟨a, sh, t, p, c, zs, rfl, _⟩ := h
    rfl
  · obtain ⟨a, sh, t, p, c, zs, rfl, hat, hsh, gz, q⟩ := h
    refine ⟨_, (pss_cons (ps_set (i := 2) scLsensor_tells.nd rfl (Or.inl rfl) (pe_prop (pv 0) kS.cl pSS GSS (hr.mono (by decide)) bSS .nil pass0 rfl))
      (pss_cons (ps_if (PW.pt (pw_or (pt_not (pt_val (pe_callB call_isiY (by rfl) T.isinstance (by decide +kernel) (pa_cons (pv 2) (pa_cons (pe_bltn (v := .ty "dict") (by rfl) Tdict (by decide +kernel) rfl) pa_nil))))) (pw_or1 (pt_cmpR (op_neD hr.units) (LiI.pe_listItems rfl (pv 2) (by rfl) T.list (by decide +kernel)) (pe_lc (own := [("_law_word", 3)]) rfl scLsensor_tells.nd (pi_list (pe_callB (call_sortedD rfl) (by rfl) T.sorted (by decide +kernel) (pa_cons (pv 1) pa_nil))) (blkOk_by (own := [("_law_word", 3)]) (N := nLsensor_tells) (sc := defScope sLsensor_tells) (by decide +kernel)) (fun _ _ _ _ _ => (pg_name (i := 3) scLsensor_tells.nd rfl (Or.inl rfl))) (fun _ _ _ _ _ => pts_nil) (fun _ _ _ _ _ => (pe_tup (pa_cons (pv 3) (pa_cons (pe_dget (hu1 hr) (pv 1) (pv 3) (fun _ _ => rfl)) pa_nil))))) (nomark _))))) (pss_one (ps_ret pe_bl)) pss_nil)
      (pss_cons (ps_expr (pe_bm0 PySem.F.plainAttrs_dict PySem.F.slot_dict_clear PySem.F.type_dict_clear mt_clearD (pv 2)))
      (pss_one (ps_ret (pe_cmpR (op_eqDS (hu0 hr)) (pe_prop (pv 0) kS.cl pSS GSS (hr.mono (by decide)) bSS .nil pass0 rfl) (pv 1) (nomark _))))))), ?_⟩
    have sgt : ∀ {H' : Hp} {Q' : VK} {E' : XK}, Same H H' → (∀ r, H' r = none → Q' (.ref r) (upd H' r (.dK (dS (showZ zs))))) → ∃ a' dx fs, V.ref a = .ref a' ∧ H' a' = some (.ins CS dx fs) ∧ spSights K CS [.ref a'] H' Q' E' := fun {H' Q' E'} s' q' => by
      have hat' := hat.mono s'
      obtain ⟨dx, r, h1, h2⟩ := hat'
      exact ⟨a, dx, _, rfl, h1, a, t, p, c, _, rfl, ⟨dx, r, h1, h2⟩, kS, q'⟩
    refine ⟨_, rfl, ?_⟩
    refine sgt (Same.refl _) fun r1 n1 => ?_
    have s1 := same_upd (o := .dK (dS (showZ zs))) n1
    refine ⟨_, rfl, _, _, _, _, _, rfl, .ty "dict", .x (.base (.dK upd_same)), kit_dict (by decide), _, rfl, ?_⟩
    refine ⟨_, rfl, r1, _, rfl, upd_same, fun H2 pl ts s2 n2 n3 n4 h2 hts => ?_⟩
    have s2 : Same _ H2 := s2
    have s02 := s1.trans s2
    have hpr := pair_dS hts
    have gs : ∀ p ∈ showZ zs, NameOk p.1 ∧ NameOk p.2 := fun p hp => gz.2.1 p ((show_mem gz.1).mp hp)
    have ls : (showZ zs).length ≤ 900 := by rw [show_len]; have := gz.2.2.2; omega
    have d1 : Dp K H2 (.ref pl) (.list ((showZ zs).map pD)) := .lst (SqL.of h2) (pairs_dp hpr)
    have hS1 : H2 r1 = some (.dK (dS (showZ zs))) := s2 _ _ upd_same
    clear hts hpr
    refine ⟨_, rfl, sh, _, zs.map (·.1), rfl, .inl (s02 _ _ hsh), keys_dS zs, by rw [List.length_map]; have := gz.2.2.2; omega, fun ys pl2 hp hsr n5 => ?_⟩
    have eys := sorted_eq hp hsr
    have s23 := same_upd (o := .lst (ys.map V.str)) n5
    have h3 : upd H2 pl2 (.lst (ys.map V.str)) pl2 = some (.lst (ys.map V.str)) := upd_same
    generalize upd H2 pl2 (.lst (ys.map V.str)) = H3 at s23 h3 ⊢
    have s03 := s02.trans s23
    refine ⟨pl2, rfl, ⟨_, SqL.of h3⟩, fun D1 hD1 => lc_list (K := K) (a := pl2) (xs := ys.map V.str) (fun i H' => ∃ ts : List Addr, Same H3 H' ∧ H' D1 = some (.lst (ts.map V.ref)) ∧ Paired (fun (t : Addr) (p : Str × Str) => t ≠ D1 ∧ H' t = some (.tup [.str p.1, .str p.2])) ts ((showZ zs).take i)) ⟨[], same_upd hD1, upd_same, .nil⟩ ?_ ?_ ?_⟩
    · rintro i H' _ ⟨ts, s', _⟩
      exact SqL.of (s' _ _ h3)
    · rintro i x H' hi ⟨ts, s', hD, hp'⟩
      obtain ⟨y, hy, rfl⟩ : ∃ y, ys[i]? = some y ∧ x = .str y := by
        rw [List.getElem?_map] at hi
        cases e : ys[i]? with
        | none => rw [e] at hi; cases hi
        | some y => rw [e] at hi; cases hi; exact ⟨y, rfl, rfl⟩
      have hym : y ∈ zs.map (·.1) := hp.mem_iff.mp (List.mem_of_getElem? hy)
      obtain ⟨pz, hpz, rfl⟩ := List.mem_map.mp hym
      have hlk := look_mem gz.1 hpz
      have hsi : (showZ zs)[i]? = some pz := by
        unfold showZ
        rw [← eys, List.getElem?_map, hy]
        show some (pz.1, (look zs pz.1).getD "") = some pz
        rw [hlk]
        rfl
      refine ⟨rfl, _, rfl, _, rfl, _, rfl, sh, .str pz.2, rfl, .inl ⟨_, .inr pz.1, .inl (s' _ _ (s03 _ _ hsh)), rfl, by rw [dS_val, hlk]; rfl⟩, by show 2 ≤ sizeLine; decide, fun t2 nt2 => ?_⟩
      have nD : D1 ≠ t2 := fun e => by rw [e, nt2] at hD; cases hD
      have il : i < 900 := by
        have := (List.getElem?_eq_some_iff.mp hsi).1
        omega
      have lt : ts.length ≤ 900 := by
        have := pair_get2 hp'
        rw [List.length_take] at this
        omega
      refine ⟨_, by rw [upd_ne nD]; exact hD, by rw [List.length_map]; exact small1000 (by omega), ts ++ [t2], fun b o hb => ?_, by rw [upd_same, List.map_append]; rfl, ?_⟩
      · rw [upd_ne (fun e => by rw [e, hD1] at hb; cases hb)]
        exact same_upd nt2 _ _ (s' _ _ hb)
      · rw [take_next hsi]
        have kp : ∀ (t : Addr) (p : Str × Str), (t ≠ D1 ∧ H' t = some (.tup [.str p.1, .str p.2])) → t ≠ D1 ∧ upd (upd H' t2 (.tup [.str pz.1, .str pz.2])) D1 (.lst (ts.map V.ref ++ [.ref t2])) t = some (.tup [.str p.1, .str p.2]) := fun t p h => ⟨h.1, by
          rw [upd_ne h.1]
          exact same_upd nt2 _ _ h.2⟩
        exact pair_app (pair_map kp hp') (.cons ⟨nD.symm, by rw [upd_ne nD.symm, upd_same]⟩ .nil)
    · rintro H4 ⟨ts2, s34, hD4, hp4⟩
      have ly : (ys.map V.str).length = (showZ zs).length := by
        rw [List.length_map, show_len, hp.length_eq, List.length_map]
      rw [ly, List.take_length] at hp4
      have s24 := s23.trans s34
      have d2 : Dp K H4 (.ref D1) (.list ((showZ zs).map pD)) := .lst (SqL.of hD4) (pairs_dp (pair_map (fun _ _ h => h.2) hp4))
      have shp := sz_shaped (pairs_sz gs ls) (by decide)
      refine ⟨_, _, Dp.mono s24 d1, d2, shp, shp, _, rfl, ?_⟩
      rw [eqv_refl _ (SeqAt.canLay_of_shaped shp)]
      have hr4 : H4 r1 = some (.dK (dS (showZ zs))) := s24 _ _ hS1
      have s04 := s03.trans s34
      refine ⟨_, rfl, .inr (.inr (.inl ⟨rfl, .inl ⟨_, hr4⟩⟩)), r1, _, rfl, rfl, hr4, ?_⟩
      have s05 : Same H (upd H4 r1 (.dK [])) := fun b o hb => by
        rw [upd_ne (fun e => by rw [e, n1] at hb; cases hb)]
        exact s04 _ _ hb
      generalize upd H4 r1 (.dK []) = H5 at s05 ⊢
      refine ⟨_, rfl, ?_⟩
      refine sgt s05 fun r2 nr2 => ?_
      have s56 := same_upd (o := .dK (dS (showZ zs))) nr2
      refine ⟨_, rfl, r2, sh, kS2 (showZ zs), kS2 zs, rfl, rfl, by rw [← dS_vS]; exact upd_same, by rw [← dS_vS]; exact s56 _ _ (s05 _ _ hsh), ?_⟩
      rw [show sameS (kS2 (showZ zs)) (kS2 zs) = true from (sameZ_iff (show_nd gz.1) gz.1).mpr fun p => show_mem gz.1]
      exact q _ (s05.trans s56)
end
end WW

set_option Elab.async false
set_option linter.all false
set_option maxRecDepth 100000
set_option maxHeartbeats 4000000
namespace WW
open PySem PySem.Spec PyProof.Rows L2
section
variable {K : PySem.W.Frag} {S H : Hp} {p a : Addr} {zs : ZZ} {t : Str} {i c : Int} {CS CL CN CP CG CW CC : Addr} {E : XK}
theorem spSInit.mono {vs : List V} {Q Q' : VK} (m : ∀ v H, Q v H → Q' v H) (h : spSInit K CS CN CP CG CC vs H Q E) : spSInit K CS CN CP CG CC vs H Q' E := by
  obtain ⟨x, dx, S, t, p, g, c, n, m', l, b, h1, h2, h3, h4, h5, h6, h7, h8, q1, q2, q3, q4, q5⟩ := h
  exact ⟨x, dx, S, t, p, g, c, n, m', l, b, h1, h2, h3, h4, h5, h6, h7, h8, q1, q2, q3, q4, fun e1 e2 e3 e4 a zs r H' f1 f2 f3 f4 f5 f6 f7 f8 => m _ _ (q5 e1 e2 e3 e4 a zs r H' f1 f2 f3 f4 f5 f6 f7 f8)⟩
theorem spLInit.mono {vs : List V} {Q Q' : VK} (m : ∀ v H, Q v H → Q' v H) (h : spLInit K CL CN CP CW CC vs H Q E) : spLInit K CL CN CP CW CC vs H Q' E := by
  obtain ⟨x, dx, S, t, p, g, c, n, m', l, b, h1, h2, h3, h4, h5, h6, h7, h8, q1, q2, q3, q4, q5⟩ := h
  exact ⟨x, dx, S, t, p, g, c, n, m', l, b, h1, h2, h3, h4, h5, h6, h7, h8, q1, q2, q3, q4, fun e1 e2 e3 zs r H' f1 f2 f3 f4 f5 f6 => m _ _ (q5 e1 e2 e3 zs r H' f1 f2 f3 f4 f5 f6)⟩
theorem dS_len (zs : ZZ) : (dS zs).length = zs.length := List.length_map ..
theorem dS_nd {zs : ZZ} (h : (zs.map (·.1)).Nodup) : ((dS zs).map (·.1)).Nodup := by
  rw [keys_dS]
  exact List.pairwise_map.mpr (h.imp fun {a b} n e => n (Sum.inr.inj e))
theorem sg_good (ha : H a = some (.dK (dS zs))) (g : goodZ zs) : SgQ K H (.ref a) true := by
  have h := SgQ.dk (K := K) ha (fun q hq => by
    obtain ⟨r, hr, rfl⟩ := List.mem_map.mp hq
    exact .inr ⟨_, rfl, sl_ok (g.2.1 r hr).2.2.1⟩) (fun q hq z e => by
    obtain ⟨r, hr, rfl⟩ := List.mem_map.mp hq
    cases e
    exact sl_ok (g.2.1 r hr).1.2.1) (dS_nd g.1) (by rw [dS_len]; have := g.2.2.2; omega)
  rw [dS_len, decide_eq_true g.2.2.1, decide_eq_true g.2.2.2, show ((dS zs).all fun p => isNm (kV p.1) && isNm p.2) = true from List.all_eq_true.mpr fun q hq => by
    obtain ⟨r, hr, rfl⟩ := List.mem_map.mp hq
    show (nmB r.1 && nmB r.2) = true
    rw [(nmB_iff _).mpr (g.2.1 r hr).1, (nmB_iff _).mpr (g.2.1 r hr).2]
    rfl] at h
  exact h
theorem btw_in {lo hi j : Int} (h1 : lo ≤ j) (h2 : j ≤ hi) : btw lo hi (.int j) = true := by
  show (decide _ && decide _) = true
  rw [decide_eq_true h1, decide_eq_true h2]
  rfl
theorem own_same {x dx C : Addr} (nx : H x = none) (ndx : H dx = none) : Same H (upd (upd H dx (.own x)) x (.ins C dx [])) := fun c o h => by
  rw [upd_ne (ne_of_none h nx), upd_ne (ne_of_none h ndx)]
  exact h
theorem own_none {x dx C r : Addr} (h : upd (upd H dx (.own x)) x (.ins C dx []) r = none) : H r = none := by
  by_cases e : r = x
  · rw [e, upd_same] at h; cases h
  · rw [upd_ne e] at h
    by_cases e2 : r = dx
    · rw [e2, upd_same] at h; cases h
    · rw [upd_ne e2] at h
      exact h
theorem make_sen (P0 : Pool S H p) (ha : H a = some (.dK (dS zs))) (gz : goodZ zs) (nt : NameOk t) (i0 : 0 ≤ i) (i1 : i ≤ 1) (c0 : 1 ≤ c) (c1 : c ≤ 1000)
    :
    ∀ x dx, H x = none → H dx = none → dx ≠ x → spSInit K CS CN CP CG CC [.ref x, .str t, .int i, .ref a, .int c] (upd (upd H dx (.own x)) x (.ins CS dx [])) (fun v H2 => v = .non ∧ ∃ S', Pool S' H2 p ∧ Gr p S H S' H2 ∧ SenAt CS S' x (.str t) (.int i) (.int c) (showZ zs)) E := by
  intro x dx nx ndx nxd
  have ts : isNm (.str t) = true := (nmB_iff _).mpr nt
  have ti := btw_in i0 i1
  have tc := btw_in c0 c1
  refine ⟨x, dx, H, .str t, .int i, .ref a, .int c, _, _, _, true, rfl, upd_same, own_same nx ndx, nx, kd_str K H (sl_ok nt.2.1), kd_int K H i, sg_good ha gz, kd_int K H c, fun e => absurd (ts.symm.trans e) (by decide), fun _ e => absurd (ti.symm.trans e) (by decide), fun _ _ e => absurd e (by decide), fun _ _ _ e => absurd (tc.symm.trans e) (by decide), fun _ _ _ _ a' zs' r H' ea ha' gz' nr nrx k hx hr => ⟨rfl, ?_⟩⟩
  cases ea
  rw [ha] at ha'
  have ez : dS zs' = dS zs := (HO.dK.inj (Option.some.inj ha')).symm
  rw [show showZ zs' = showZ zs from by
    have inj : ∀ l m : ZZ, dS l = dS m → l = m := fun l => by
      induction l with
      | nil => intro m h; cases m with
        | nil => rfl
        | cons _ _ => cases h
      | cons q r ih =>
        intro m h
        cases m with
        | nil => cases h
        | cons q' r' =>
          injection h with h1 h2
          injection h1 with h3 h4
          obtain ⟨q1, q2⟩ := q
          obtain ⟨q1', q2'⟩ := q'
          have h3 : q1 = q1' := Sum.inr.inj h3
          have h4 : q2 = q2' := V.str.inj h4
          rw [ih r' h2, h3, h4]
    rw [inj _ _ ez]] at hr
  have sHH : Same H H' := keep_same (own_same nx ndx) nx k
  have nr' : H r = none := own_none nr
  have sx : S x = none := P0.ss.free nx
  have sr : S r = none := P0.ss.free nr'
  have nxp : x ≠ p := fun z => P0.has (by rw [← z]; exact nx)
  have nrp : r ≠ p := fun z => P0.has (by rw [← z]; exact nr')
  have P1 := (P0.same sHH).fix hx sx nxp
  have g1 := ((Gr.refl (p := p) (S := S) (H := H)).same sHH).fix (o := .ins CS dx (sF (.str t) (.int i) (.int c) r)) nx sx
  have sr1 : upd S x (.ins CS dx (sF (.str t) (.int i) (.int c) r)) r = none := by
    rw [upd_ne nrx]
    exact sr
  have P2 := P1.fix hr sr1 nrp
  have g2 := g1.fix (o := .dK (dS (showZ zs))) nr' sr1
  refine ⟨_, P2, g2, dx, r, ?_, upd_same⟩
  rw [upd_ne (Ne.symm nrx), upd_same]
theorem make_lok {ys : List Str} (P0 : Pool S H p) (ha : H a = some (.lst (ys.map V.str)) ∨ H a = some (.tup (ys.map V.str))) (oky : ∀ y ∈ ys, NameOk y) (l1 : 1 ≤ ys.length) (l2 : ys.length ≤ 10) (nd : ys.Nodup) (nt : NameOk t) (i0 : 0 ≤ i) (i1 : i ≤ 1) (c0 : 1 ≤ c) (c1 : c ≤ 1000)
    :
    ∀ x dx, H x = none → H dx = none → dx ≠ x → spLInit K CL CN CP CW CC [.ref x, .str t, .int i, .ref a, .int c] (upd (upd H dx (.own x)) x (.ins CL dx [])) (fun v H2 => v = .non ∧ ∃ S', Pool S' H2 p ∧ Gr p S H S' H2 ∧ LokAt CL S' x (.str t) (.int i) (.int c) (ys.mergeSort leS)) E := by
  intro x dx nx ndx nxd
  have ts : isNm (.str t) = true := (nmB_iff _).mpr nt
  have ti := btw_in i0 i1
  have tc := btw_in c0 c1
  have hl : LwQ K H (.ref a) (some ys) := by
    have := LwQ.row (K := K) ha oky (by omega)
    rw [if_pos ⟨l1, l2, nd⟩] at this
    exact this
  refine ⟨x, dx, H, .str t, .int i, .ref a, .int c, _, _, _, some ys, rfl, upd_same, own_same nx ndx, nx, kd_str K H (sl_ok nt.2.1), kd_int K H i, hl, kd_int K H c, fun e => absurd (ts.symm.trans e) (by decide), fun _ e => absurd (ti.symm.trans e) (by decide), fun _ _ e => absurd e (by simp), fun _ _ _ e => absurd (tc.symm.trans e) (by decide), fun _ _ _ zs' r H' ez nr nrx k hx hr => ⟨rfl, ?_⟩⟩
  cases ez
  have sHH : Same H H' := keep_same (own_same nx ndx) nx k
  have nr' : H r = none := own_none nr
  have sx : S x = none := P0.ss.free nx
  have sr : S r = none := P0.ss.free nr'
  have nxp : x ≠ p := fun z => P0.has (by rw [← z]; exact nx)
  have nrp : r ≠ p := fun z => P0.has (by rw [← z]; exact nr')
  have P1 := (P0.same sHH).fix hx sx nxp
  have g1 := ((Gr.refl (p := p) (S := S) (H := H)).same sHH).fix (o := .ins CL dx (lF (.str t) (.int i) (.int c) r)) nx sx
  have sr1 : upd S x (.ins CL dx (lF (.str t) (.int i) (.int c) r)) r = none := by
    rw [upd_ne nrx]
    exact sr
  have P2 := P1.fix hr sr1 nrp
  have g2 := g1.fix (o := .lst ((ys.mergeSort leS).map V.str)) nr' sr1
  refine ⟨_, P2, g2, dx, r, ?_, upd_same⟩
  rw [upd_ne (Ne.symm nrx), upd_same]
end
def setZ (zs : ZZ) (y z : Str) : ZZ := zs.map fun q => if q.1 = y then (q.1, z) else q
theorem setZ_keys (zs : ZZ) (y z : Str) : (setZ zs y z).map (·.1) = zs.map (·.1) := by
  unfold setZ
  rw [List.map_map]
  refine List.map_congr_left fun q _ => ?_
  show (if q.1 = y then (q.1, z) else q).1 = q.1
  split <;> rfl
theorem put_old {zs : ZZ} {y z : Str} (h : y ∈ zs.map (·.1)) : putK (dS zs) (Sum.inr y) (.str z) = dS (setZ zs y z) := by
  unfold putK
  rw [if_pos]
  · unfold dS setZ
    rw [List.map_map, List.map_map]
    refine List.map_congr_left fun q _ => ?_
    show (if (Sum.inr q.1 : Key) = Sum.inr y then _ else _) = ((Sum.inr (if q.1 = y then (q.1, z) else q).1 : Key), V.str (if q.1 = y then (q.1, z) else q).2)
    by_cases e : q.1 = y
    · rw [if_pos (by rw [e]), if_pos e]
    · rw [if_neg (fun h => e (Sum.inr.inj h)), if_neg e]
  · rw [List.any_eq_true]
    obtain ⟨q, hq, rfl⟩ := List.mem_map.mp h
    exact ⟨_, List.mem_map.mpr ⟨q, hq, rfl⟩, decide_eq_true rfl⟩
theorem setZ_good {zs : ZZ} {y z : Str} (g : goodZ zs) (nz : NameOk z) : goodZ (setZ zs y z) := by
  refine ⟨by rw [setZ_keys]; exact g.1, fun q hq => ?_, by unfold setZ; rw [List.length_map]; exact g.2.2.1, by unfold setZ; rw [List.length_map]; exact g.2.2.2⟩
  obtain ⟨r, hr, rfl⟩ := List.mem_map.mp hq
  have := g.2.1 r hr
  by_cases e : r.1 = y
  · rw [if_pos e]
    exact ⟨this.1, nz⟩
  · rw [if_neg e]
    exact this
theorem rev_good {zs : ZZ} (g : goodZ zs) : goodZ (showZ zs).reverse := by
  refine ⟨?_, fun q hq => g.2.1 q ((show_mem g.1).mp (List.mem_reverse.mp hq)), by rw [List.length_reverse, show_len]; exact g.2.2.1, by rw [List.length_reverse, show_len]; exact g.2.2.2⟩
  rw [List.map_reverse]
  exact (List.reverse_perm _).nodup_iff.mpr (show_nd g.1)
theorem rev_mem {zs : ZZ} (g : goodZ zs) (q : Str × Str) : q ∈ (showZ zs).reverse ↔ q ∈ zs := by rw [List.mem_reverse, show_mem g.1]
theorem bool_iff {a b : Bool} (h : a = true ↔ b = true) : a = b := by
  cases a <;> cases b <;> simp_all
theorem same_shows {zs ys : ZZ} (g : goodZ zs) (g' : goodZ ys) : sameZ (showZ zs) (showZ ys) = sameZ zs ys := by
  refine bool_iff ?_
  rw [sameZ_iff (show_nd g.1) (show_nd g'.1), sameZ_iff g.1 g'.1]
  exact forall_congr' fun q => by rw [show_mem g.1, show_mem g'.1]
theorem same_comm {zs ys : ZZ} (g : goodZ zs) (g' : goodZ ys) : sameZ ys zs = sameZ zs ys := by
  refine bool_iff ?_
  rw [sameZ_iff g.1 g'.1, sameZ_iff g'.1 g.1]
  exact forall_congr' fun q => Iff.comm
theorem same_rev {zs : ZZ} (g : goodZ zs) : sameZ zs (showZ zs).reverse = true := (sameZ_iff g.1 (rev_good g).1).mpr fun q => (rev_mem g q).symm
end WW

set_option Elab.async false
set_option linter.all false
set_option maxRecDepth 100000
set_option maxHeartbeats 4000000
namespace WW
open PySem PySem.Spec PyProof.Rows L2
theorem SenAt.ins {CS : Addr} {H : Hp} {a : Addr} {t p c : V} {zs : ZZ} (h : SenAt CS H a t p c zs) : ∃ dx fs, H a = some (.ins CS dx fs) ∧ Fl fs t p c := let ⟨dx, r, h1, _⟩ := h; ⟨dx, _, h1, sF_fl t p c r⟩
theorem LokAt.ins {CL : Addr} {H : Hp} {a : Addr} {t p c : V} {zs : List Str} (h : LokAt CL H a t p c zs) : ∃ dx fs, H a = some (.ins CL dx fs) ∧ Fl fs t p c := let ⟨dx, r, h1, _⟩ := h; ⟨dx, _, h1, lF_fl t p c r⟩
theorem Wd.newL {p a b : Addr} {S0 H0 S H : Hp} {u : HO} (W : Wd p S0 H0 S H) (n : H a = none) (o : HO) (so : S b = none) (ho : H b = some u) : ∃ S', Wd p S0 H0 S' (upd H a o) ∧ Same S S' ∧ S' a = some o ∧ S' b = none ∧ upd H a o b = some u := by
  have ne : b ≠ a := fun e => by rw [e, n] at ho; cases ho
  obtain ⟨W', s', h'⟩ := W.alloc n o
  exact ⟨_, W', s', h', by rw [upd_ne ne]; exact so, by rw [upd_ne ne]; exact ho⟩
theorem dI (a b : Int) : decide (V.int a = V.int b) = decide (a = b) := by
  by_cases h : a = b
  · rw [h, decide_eq_true rfl, decide_eq_true rfl]
  · rw [decide_eq_false h, decide_eq_false fun e => h (V.int.inj e)]
theorem dB (a b : Bool) (h : a = b) : decide (V.bl a = V.bl b) = true := by rw [h]; exact decide_eq_true rfl
theorem dec_comm {α : Type} [DecidableEq α] (a b : α) : decide (a = b) = decide (b = a) := by
  by_cases h : a = b
  · rw [decide_eq_true h, decide_eq_true h.symm]
  · rw [decide_eq_false h, decide_eq_false fun e => h e.symm]
theorem and4 (a b c : Prop) [Decidable a] [Decidable b] [Decidable c] (s : Bool) : (decide (a ∧ b ∧ c) && s) = (decide a && (decide b && (s && decide c))) := by
  by_cases h1 : a <;> by_cases h2 : b <;> by_cases h3 : c <;> cases s <;> simp [h1, h2, h3]
section
variable {P : Program} {w : World} {K : PySem.W.Frag} {mg : Str → Option Value} {base : Heap} {f fA fB fC fS fL eS eL g1 g2 g3 p1 p2 p3 CS CL CN CP CG CW CC : Addr} {fd fdA fdB fdC fdS fdL fdeS fdeL fd1 fd2 fd3 : FuncData}
theorem eq_sen {H : Hp} {a b : Addr} {t t' : Str} {i i' c c' : Int} {zs ys : ZZ} {Q : VK} (h1 : SenAt CS H a (.str t) (.int i) (.int c) zs) (h2 : SenAt CS H b (.str t') (.int i') (.int c') ys) (n1 : NameOk t) (n2 : NameOk t') (q : ∀ H', Same H H' → Q (.bl (decide (t = t' ∧ i = i' ∧ c = c') && sameZ zs ys)) H') :
    ∃ a' b' dx dy fs gs, V.ref a = .ref a' ∧ V.ref b = .ref b' ∧ H a' = some (.ins CS dx fs) ∧ H b' = some (.ins CS dy gs) ∧ spSEq K CS CL [.ref a', .ref b'] H Q E0 := by
  obtain ⟨dx, fs, e1, _⟩ := h1.ins
  obtain ⟨dy, gs, e2, _⟩ := h2.ins
  exact ⟨a, b, dx, dy, fs, gs, rfl, rfl, e1, e2, a, b, t, i, c, zs, rfl, h1, n1, .inl ⟨t', i', c', ys, h2, n2, q⟩⟩
theorem eq_lok {H : Hp} {a b : Addr} {t t' : Str} {i i' c c' : Int} {zs ys : List Str} {Q : VK} (h1 : LokAt CL H a (.str t) (.int i) (.int c) zs) (h2 : LokAt CL H b (.str t') (.int i') (.int c') ys) (n1 : NameOk t) (n2 : NameOk t') (o1 : ∀ z ∈ zs, NameOk z) (o2 : ∀ z ∈ ys, NameOk z) (q : ∀ H', Same H H' → Q (.bl (decide (t = t' ∧ i = i' ∧ c = c') && decide (zs = ys))) H') :
    ∃ a' b' dx dy fs gs, V.ref a = .ref a' ∧ V.ref b = .ref b' ∧ H a' = some (.ins CL dx fs) ∧ H b' = some (.ins CL dy gs) ∧ spLEq K CL CS [.ref a', .ref b'] H Q E0 := by
  obtain ⟨dx, fs, e1, _⟩ := h1.ins
  obtain ⟨dy, gs, e2, _⟩ := h2.ins
  exact ⟨a, b, dx, dy, fs, gs, rfl, rfl, e1, e2, a, b, t, i, c, zs, rfl, h1, n1, o1, .inl ⟨t', i', c', ys, h2, n2, o2, q⟩⟩
theorem eq_sl {H : Hp} {a b : Addr} {t t' : Str} {i i' c c' : Int} {zs : ZZ} {ys : List Str} {Q : VK} (nf : PySem.W.notFirst K CS (.ref CL) = true) (h1 : SenAt CS H a (.str t) (.int i) (.int c) zs) (h2 : LokAt CL H b (.str t') (.int i') (.int c') ys) (n1 : NameOk t) (q : Q (.bl false) H) :
    ∃ a' b' D dx dy fs gs, V.ref a = .ref a' ∧ V.ref b = .ref b' ∧ H a' = some (.ins CS dx fs) ∧ H b' = some (.ins D dy gs) ∧ PySem.W.notFirst K CS (.ref D) = true ∧ spSEq K CS CL [.ref a', .ref b'] H Q E0 := by
  obtain ⟨dx, fs, e1, _⟩ := h1.ins
  obtain ⟨dy, gs, e2, _⟩ := h2.ins
  exact ⟨a, b, CL, dx, dy, fs, gs, rfl, rfl, e1, e2, nf, a, b, t, i, c, zs, rfl, h1, n1, .inr ⟨dy, gs, e2, q⟩⟩
theorem eq_ls {H : Hp} {a b : Addr} {t t' : Str} {i i' c c' : Int} {zs : ZZ} {ys : List Str} {Q : VK} (nf : PySem.W.notFirst K CL (.ref CS) = true) (h1 : LokAt CL H a (.str t) (.int i) (.int c) ys) (h2 : SenAt CS H b (.str t') (.int i') (.int c') zs) (n1 : NameOk t) (o1 : ∀ z ∈ ys, NameOk z) (q : Q (.bl false) H) :
    ∃ a' b' D dx dy fs gs, V.ref a = .ref a' ∧ V.ref b = .ref b' ∧ H a' = some (.ins CL dx fs) ∧ H b' = some (.ins D dy gs) ∧ PySem.W.notFirst K CL (.ref D) = true ∧ spLEq K CL CS [.ref a', .ref b'] H Q E0 := by
  obtain ⟨dx, fs, e1, _⟩ := h1.ins
  obtain ⟨dy, gs, e2, _⟩ := h2.ins
  exact ⟨a, b, CS, dx, dy, fs, gs, rfl, rfl, e1, e2, nf, a, b, t, i, c, ys, rfl, h1, n1, o1, .inr ⟨dy, gs, e2, q⟩⟩
theorem prop_sen {H : Hp} {a : Addr} {t p c : V} {zs : ZZ} {g : V → V → V → V} {Q : VK} {E : XK} (kS : Kl K CS) (h : SenAt CS H a t p c zs) (q : Q (g t p c) H) : ∃ a' dx fs, V.ref a = .ref a' ∧ H a' = some (.ins CS dx fs) ∧ spFl K g [.ref a'] H Q E := by
  obtain ⟨dx, fs, h1, h2⟩ := h.ins
  exact ⟨a, dx, fs, rfl, h1, a, dx, CS, fs, _, _, _, rfl, h1, kS, h2, q⟩
abbrev sLtwins : Stmt := topS 40
abbrev nLtwins : List Str := ["_law_pool_here", "_law_head", "_law_post", "_law_shown", "_law_row", "_law_fee", "_law_first", "_law_lock", "_law_other", "_law_word", "_law_kind", "_law_second", "_law_same"]
theorem scLtwins : FnScope nLtwins ["_law_pool_here", "_law_head", "_law_post", "_law_shown", "_law_row", "_law_fee"] (defScope sLtwins) := ⟨rfl, rfl, rfl, by decide +kernel, rfl, by decide +kernel, by decide +kernel⟩
def spTwins : Sp := fun vs H Q _ => ∃ (p sh ro : Addr) (S : Hp) (hd : Str) (po fe : Int) (zs : ZZ), vs = [.ref p, .str hd, .int po, .ref sh, .ref ro, .int fe] ∧ Pool S H p ∧ S sh = some (.dK (dS zs)) ∧ S ro = some (.lst ((zs.map (·.1)).map V.str)) ∧ goodZ zs ∧ NameOk hd ∧ 0 ≤ po ∧ po ≤ 1 ∧ 1 ≤ fe ∧ fe ≤ 1000 ∧ ∀ H', Q (.bl true) H'
theorem ok_twins (D : Df K mg "_law_twins" sLtwins ["_law_pool_here", "_law_head", "_law_post", "_law_shown", "_law_row", "_law_fee"] f fd) (DLdraw : Df K mg "_law_draw" sLdraw ["_law_pool_here", "_law_many"] fA fdA) (GLdraw : FnOk P w K mg base CX0 1 fA fdA ["_law_pool_here", "_law_many"] spDraw)
    (DLname : Df K mg "_law_name" sLname ["_law_pool_here", "_law_taken"] fB fdB) (GLname : FnOk P w K mg base CX0 2 fB fdB ["_law_pool_here", "_law_taken"] spName)
    (DLnames : Df K mg "_law_names" sLnames ["_law_pool_here", "_law_many"] fC fdC) (GLnames : FnOk P w K mg base CX0 3 fC fdC ["_law_pool_here", "_law_many"] spNames) (T : Bl mg) (gS : mg "Sensor" = some (.ref CS)) (gL : mg "Lock" = some (.ref CL))
    (MSensor : Mk K CS fS) (GISensor : FnOk P w K mg base (L2.CX P w) 5 fS fdS ["self", "name", "post", "sights", "cost"] (spSInit K CS CN CP CG CC)) (bISensor : Binds K fdS ["self", "name", "post", "sights", "cost"] [])
    (MLock : Mk K CL fL) (GILock : FnOk P w K mg base (L2.CX P w) 5 fL fdL ["self", "name", "post", "words", "cost"] (spLInit K CL CN CP CW CC)) (bILock : Binds K fdL ["self", "name", "post", "words", "cost"] [])
    (kS : Kl K CS) (kL : Kl K CL) (CES : EqC K CS eS) (GEqS : FnOk P w K mg base CX0 2 eS fdeS ["self", "other"] (spSEq K CS CL)) (bEqS : Binds K fdeS ["self", "other"] [])
    (CEL : EqC K CL eL) (GEqL : FnOk P w K mg base CX0 2 eL fdeL ["self", "other"] (spLEq K CL CS)) (bEqL : Binds K fdeL ["self", "other"] []) (nf1 : PySem.W.notFirst K CS (.ref CL) = true) (nf2 : PySem.W.notFirst K CL (.ref CS) = true)
    (pN : PropOf K CS "name" p1 g1) (GN : FnOk P w K mg base CX0 1 g1 fd1 ["self"] (spFl K fun t _ _ => t)) (bN : Binds K fd1 ["self"] [])
    (pP : PropOf K CS "post" p2 g2) (GP : FnOk P w K mg base CX0 1 g2 fd2 ["self"] (spFl K fun _ p _ => p)) (bP : Binds K fd2 ["self"] [])
    (pC : PropOf K CS "cost" p3 g3) (GC : FnOk P w K mg base CX0 1 g3 fd3 ["self"] (spFl K fun _ _ c => c)) (bC : Binds K fd3 ["self"] []) :
    FnOk P w K mg base CX0 7 f fd ["_law_pool_here", "_law_head", "_law_post", "_law_shown", "_law_row", "_law_fee"] spTwins := by
  refine D.fn.ok scLtwins (fun vs H Q E h => ?_) (fun cdv A outer s H vs Q E hr h => ?_)
  · obtain ⟨p, sh, ro, S, hd, po, fe, zs, rfl, _⟩ := h
    rfl
  · obtain ⟨p, sh, ro, S0, hd, po, fe, zs, rfl, P0, hsh, hro, gz, nhd, po0, po1, fe0, fe1, q⟩ := h
    refine ⟨_, (pss_cons (ps_set (i := 6) scLtwins.nd rfl (Or.inl rfl) (pe_makeS MSensor GISensor (hr.mono (by decide)) (by rfl) gS bISensor (fun σ => passAt takes0 σ) (pa_cons (pv 1) (pa_cons (pv 2) (pa_cons (pv 3) (pa_cons (pv 5) pa_nil))))))
      (pss_cons (ps_set (i := 7) scLtwins.nd rfl (Or.inl rfl) (pe_makeS MLock GILock (hr.mono (by decide)) (by rfl) gL bILock (fun σ => passAt takes0 σ) (pa_cons (pv 1) (pa_cons (pv 2) (pa_cons (pv 4) (pa_cons (pv 5) pa_nil))))))
      (pss_cons (ps_set (i := 8) scLtwins.nd rfl (Or.inl rfl) pe_dnewK)
      (pss_cons (ps_for PassesOwn.never rfl (pi_list (pe_revL (pe_callB (call_sortedD rfl) (by rfl) T.sorted (by decide +kernel) (pa_cons (pv 3) pa_nil)))) (pg_name (i := 9) scLtwins.nd rfl (Or.inl rfl)) (pss_one (ps_dput (hu1 hr) (pv 8) (pv 9) (pe_dget (hu1 hr) (pv 3) (pv 9) (fun _ _ => rfl)) (by rfl))))
      (pss_cons (ps_if (PW.pt (pw_or (pt_not (pt_cmpR (op_eqO CES GEqS bEqS (hr.mono (by decide))) (pv 6) (pe_makeS MSensor GISensor (hr.mono (by decide)) (by rfl) gS bISensor (fun σ => passAt takes0 σ) (pa_cons (pv 1) (pa_cons (pv 2) (pa_cons (pv 8) (pa_cons (pv 5) pa_nil))))) (nomark _))) (pw_or1 (pt_not (pt_cmpR (op_eqO CEL GEqL bEqL (hr.mono (by decide))) (pv 7) (pe_makeS MLock GILock (hr.mono (by decide)) (by rfl) gL bILock (fun σ => passAt takes0 σ) (pa_cons (pv 1) (pa_cons (pv 2) (pa_cons (pe_callTy call_tuple_of (by rfl) T.tuple (by decide +kernel) (pa_cons (pe_revL (pv 4)) pa_nil)) (pa_cons (pv 5) pa_nil))))) (nomark _)))))) (pss_one (ps_ret pe_bl)) pss_nil)
      (pss_cons (ps_if (PW.pt (pw_or (pt_cmpR (op_eqOD CES GEqS bEqS (hr.mono (by decide))) (pv 6) (pv 7) (nomark _)) (pw_or1 (pt_cmpR (op_eqOD CEL GEqL bEqL (hr.mono (by decide))) (pv 7) (pv 6) (nomark _))))) (pss_one (ps_ret pe_bl)) pss_nil)
      (pss_cons (ps_set (i := 10) scLtwins.nd rfl (Or.inl rfl) (pe_df DLdraw GLdraw (hr.mono (by decide)) (pa_cons (pv 0) (pa_cons pe_int pa_nil))))
      (C8.pss_cut (ps_if (pt_cmpR op_eq (pv 10) pe_int (nomark _)) (pss_one (ps_set (i := 1) scLtwins.nd rfl (Or.inl rfl) (pe_df DLname GLname (hr.mono (by decide)) (pa_cons (pv 0) (pa_cons (pe_lst (pa_cons (pv 1) pa_nil)) pa_nil))))) pss_nil)
      (C8.pss_cut (ps_if (pt_cmpR op_eq (pv 10) pe_int (nomark _)) (pss_one (ps_set (i := 2) scLtwins.nd rfl (Or.inl rfl) (pe_op op_sub pe_int (pv 2)))) pss_nil)
      (C8.pss_cut (ps_if (pt_cmpR op_eq (pv 10) pe_int (nomark _)) (pss_cons (ps_set (i := 9) scLtwins.nd rfl (Or.inl rfl) (pe_ix ix_list (pe_callB (call_sortedD rfl) (by rfl) T.sorted (by decide +kernel) (pa_cons (pv 3) pa_nil)) (pe_df DLdraw GLdraw (hr.mono (by decide)) (pa_cons (pv 0) (pa_cons (pe_callB cr_lenDR (by rfl) T.len (by decide +kernel) (pa_cons (pv 3) pa_nil)) pa_nil))) (fun _ _ => rfl)))
      (pss_cons (ps_dput (hu1 hr) (pv 8) (pv 9) (pe_ix ix_list (pe_df DLnames GLnames (hr.mono (by decide)) (pa_cons (pv 0) (pa_cons pe_int pa_nil))) pe_int (fun _ _ => rfl)) (by rfl))
      (pss_one (ps_set (i := 4) scLtwins.nd rfl (Or.inl rfl) (pe_slice sl_list (pv 4) po_none (po_some (pe_un un_neg pe_int))))))) pss_nil)
      (C8.pss_cut (ps_if (pt_cmpR op_eq (pv 10) pe_int (nomark _)) (pss_one (ps_set (i := 5) scLtwins.nd rfl (Or.inl rfl) (pe_op op_add pe_int (pe_df DLdraw GLdraw (hr.mono (by decide)) (pa_cons (pv 0) (pa_cons pe_int pa_nil)))))) pss_nil)
      (pss_cons (ps_set (i := 11) scLtwins.nd rfl (Or.inl rfl) (pe_makeS MSensor GISensor (hr.mono (by decide)) (by rfl) gS bISensor (fun σ => passAt takes0 σ) (pa_cons (pv 1) (pa_cons (pv 2) (pa_cons (pv 8) (pa_cons (pv 5) pa_nil))))))
      (C8.pss_cut (ps_set (i := 12) scLtwins.nd rfl (Or.inl rfl) (pe_and (pe_cmpR op_eq (pe_prop (pv 6) kS.cl pN GN (hr.mono (by decide)) bN .nil pass0 rfl) (pv 1) (nomark _)) (pe_and (pe_cmpR op_eq (pe_prop (pv 6) kS.cl pP GP (hr.mono (by decide)) bP .nil pass0 rfl) (pv 2) (nomark _)) (pe_and (pe_cmpR (op_eqDS (hu0 hr)) (pv 3) (pv 8) (nomark _)) (pe_one (pe_cmpR op_eq (pe_prop (pv 6) kS.cl pC GC (hr.mono (by decide)) bC .nil pass0 rfl) (pv 5) (nomark _)))))))
      (pss_cons (ps_if (PW.pt (pw_or (pt_cmpR op_ne (pe_cmpR (op_eqO CES GEqS bEqS (hr.mono (by decide))) (pv 6) (pv 11) (nomark _)) (pv 12) (nomark _)) (pw_or1 (pt_cmpR op_ne (pe_cmpR (op_eqO CES GEqS bEqS (hr.mono (by decide))) (pv 11) (pv 6) (nomark _)) (pv 12) (nomark _))))) (pss_one (ps_ret pe_bl)) pss_nil)
      (pss_one (ps_ret (pe_or (pe_cmpR op_eq (pv 10) pe_int (nomark _)) (pe_one (pe_cmpR op_eq (pe_cmpR (op_eqO CEL GEqL bEqL (hr.mono (by decide))) (pv 7) (pe_makeS MLock GILock (hr.mono (by decide)) (by rfl) gL bILock (fun σ => passAt takes0 σ) (pa_cons (pv 1) (pa_cons (pv 2) (pa_cons (pv 4) (pa_cons (pv 5) pa_nil))))) (nomark _)) (pv 12) (nomark _)))))))))))))))))))), ?_⟩
    have W0 : Wd p S0 H S0 H := ⟨P0, Gr.refl⟩
    have kl : (zs.map (·.1)).length = zs.length := List.length_map ..
    have okk : ∀ z ∈ zs.map (·.1), NameOk z := fun z hz => by
      obtain ⟨x, hx, rfl⟩ := List.mem_map.mp hz
      exact (gz.2.1 x hx).1
    have okm : ∀ z ∈ (zs.map (·.1)).mergeSort leS, NameOk z := fun z hz => okk z (sort_mem.mp hz)
    have k1 : 1 ≤ (zs.map (·.1)).length := by rw [kl]; exact gz.2.2.1
    have k10 : (zs.map (·.1)).length ≤ 10 := by rw [kl]; exact gz.2.2.2
    refine ⟨_, rfl, _, rfl, _, rfl, _, rfl, fun x1 dx nx ndx nxd => ?_⟩
    refine spSInit.mono (fun v H1 ⟨ev, S1, P1, g1, a1⟩ => ⟨ev, ?_⟩) (make_sen P0 (P0.ss _ _ hsh) gz nhd po0 po1 fe0 fe1 x1 dx nx ndx nxd)
    obtain ⟨W1, s1⟩ := W0.then_ P1 g1
    refine ⟨_, rfl, _, rfl, _, rfl, _, rfl, fun x2 dx nx ndx nxd => ?_⟩
    refine spLInit.mono (fun v H2 ⟨ev, S2, P2, g2, a2⟩ => ⟨ev, ?_⟩) (make_lok P1 (.inl (W1.ss _ _ (s1 _ _ hro))) okk k1 k10 gz.1 nhd po0 po1 fe0 fe1 x2 dx nx ndx nxd)
    obtain ⟨W2, s2⟩ := W1.then_ P2 g2
    have s02 := s1.trans s2
    have a1 := a1.mono s2
    have hsh2 := s02 _ _ hsh
    have hro2 := s02 _ _ hro
    refine fun o no => ?_
    have nop : o ≠ p := fun z => P2.has (by rw [← z]; exact no)
    have so2 : S2 o = none := P2.ss.free no
    have H0o : H o = none := W2.gr.bk no
    refine ⟨_, rfl, sh, _, zs.map (·.1), rfl, .inl (same_upd no _ _ (W2.ss _ _ hsh2)), keys_dS zs, by omega, fun ys l1 hp hsr n1 => ?_⟩
    have eys := sorted_eq hp hsr
    have W2' : Wd p S0 H S2 (upd H2 o (.dK [])) := W2.put H0o so2 nop
    have no1 : l1 ≠ o := fun e => by rw [e, upd_same] at n1; cases n1
    obtain ⟨W3, s3, h3⟩ := W2'.alloc n1 (.lst (ys.map V.str))
    have so3 : upd S2 l1 (.lst (ys.map V.str)) o = none := by rw [upd_ne no1.symm]; exact so2
    have ho3 : upd (upd H2 o (.dK [])) l1 (.lst (ys.map V.str)) o = some (.dK []) := by rw [upd_ne no1.symm, upd_same]
    generalize upd S2 l1 (.lst (ys.map V.str)) = S3 at W3 s3 h3 so3
    generalize upd (upd H2 o (.dK [])) l1 (.lst (ys.map V.str)) = H3 at W3 ho3 ⊢
    refine ⟨l1, _, rfl, SqL.of (W3.ss _ _ h3), fun l2 n2 => ?_⟩
    have no2 : l2 ≠ o := fun e => by rw [e, ho3] at n2; cases n2
    obtain ⟨W4, s4, h4⟩ := W3.alloc n2 (.lst (ys.map V.str).reverse)
    have so4 : upd S3 l2 (.lst (ys.map V.str).reverse) o = none := by rw [upd_ne no2.symm]; exact so3
    have ho4 : upd H3 l2 (.lst (ys.map V.str).reverse) o = some (.dK []) := by rw [upd_ne no2.symm]; exact ho3
    generalize upd S3 l2 (.lst (ys.map V.str).reverse) = S4 at W4 s4 h4 so4
    generalize upd H3 l2 (.lst (ys.map V.str).reverse) = H4 at W4 ho4 ⊢
    have s24 := s3.trans s4
    have a1 := a1.mono s24
    have a2 := a2.mono s24
    have hsh4 := s24 _ _ hsh2
    have hro4 := s24 _ _ hro2
    obtain ⟨rz, erz⟩ : ∃ rz, rz = (showZ zs).reverse := ⟨_, rfl⟩
    have gr : goodZ rz := erz ▸ rev_good gz
    have erk : (ys.map V.str).reverse = (rz.map (·.1)).map V.str := by
      rw [erz, List.map_reverse, List.map_reverse, keys_showZ, eys]
    rw [erk] at h4
    have hmz : ∀ x ∈ rz, x ∈ zs := fun x hx => (rev_mem gz x).mp (erz ▸ hx)
    have same0 : sameZ zs rz = true := by rw [erz]; exact same_rev gz
    clear erk eys hsr hp h3 s3 s4 W3 W2' so3 ho3 so2 n1 n2
    refine ⟨l2, rfl, ⟨_, SqL.of (W4.ss _ _ h4)⟩, for_list (K := K) (a := l2) (xs := (rz.map (·.1)).map V.str) (fun i σ H' => (∃ u : Option V, σ = [some (.ref p), some (.str hd), some (.int po), some (.ref sh), some (.ref ro), some (.int fe), some (.ref x1), some (.ref x2), some (.ref o), u, none, none, none]) ∧ Wd p S0 H S4 H' ∧ H' o = some (.dK (dS (rz.take i)))) ⟨⟨_, rfl⟩, W4, ho4⟩ (fun i σ H' _ h => SqL.of (h.2.1.ss _ _ h4)) ?_ ?_⟩
    · rintro i x σ H' hi ⟨⟨u, rfl⟩, W', ho'⟩
      obtain ⟨y, hy, rfl⟩ : ∃ y, rz[i]? = some y ∧ x = .str y.1 := by
        rw [List.getElem?_map, List.getElem?_map] at hi
        cases e : rz[i]? with
        | none => rw [e] at hi; cases hi
        | some y => rw [e] at hi; cases hi; exact ⟨y, rfl, rfl⟩
      have hlk := look_mem gz.1 (hmz y (List.mem_of_getElem? hy))
      refine ⟨_, rfl, _, rfl, sh, .str y.2, rfl, .inl ⟨_, .inr y.1, .inl (W'.ss _ _ hsh4), rfl, by rw [dS_val, hlk]; rfl⟩, _, rfl, _, rfl, o, _, rfl, DPut.k (k := .inr y.1) ho' ?_, ⟨_, rfl⟩, W'.put H0o so4 nop, ?_⟩
      · rw [dS_len, List.length_take]
        have := gr.2.2.2
        exact small1000 (by omega)
      · rw [upd_same, put_new, take_next hy]
        rw [List.map_take]
        exact not_before gr.1 (by rw [List.getElem?_map, hy]; rfl)
    rintro σ H5 ⟨⟨u, rfl⟩, W5, ho5⟩
    rw [show ((rz.map (·.1)).map V.str).length = rz.length by rw [List.length_map, List.length_map], List.take_length] at ho5
    -- the same once more
    refine ⟨_, rfl, _, rfl, _, rfl, _, rfl, _, rfl, fun x3 dx nx ndx nxd => ?_⟩
    refine spSInit.mono (fun v H6 ⟨ev, S6, P6, g6, a3⟩ => ⟨ev, ?_⟩) (make_sen W5.pl ho5 gr nhd po0 po1 fe0 fe1 x3 dx nx ndx nxd)
    obtain ⟨W6, s6⟩ := W5.then_ P6 g6
    obtain ⟨so6, ho6⟩ := g6.loc nop so4 ho5
    refine eq_sen ((a1.mono s6).mono W6.ss) (a3.mono W6.ss) nhd nhd fun H7 s7 => ⟨_, rfl, ?_⟩
    rw [same_shows gz gr, same0, decide_eq_true ⟨rfl, rfl, rfl⟩]
    have W7 := W6.more s7
    have ho7 := s7 _ _ ho6
    have a1 := a1.mono s6
    have a2 := a2.mono s6
    have hsh6 := s6 _ _ hsh4
    have hro6 := s6 _ _ hro4
    have n10 := gz.2.2.2
    refine ⟨_, rfl, _, rfl, _, rfl, _, rfl, ro, _, rfl, SqL.of (W7.ss _ _ hro6), fun l3 n3 => ?_⟩
    obtain ⟨S8, W8, s8, h8, so8, ho8⟩ := W7.newL n3 (.lst ((zs.map (·.1)).map V.str).reverse) so6 ho7
    refine ⟨l3, _, rfl, .inl ⟨SqL.of (W8.ss _ _ h8), fun t3 nt3 => ?_⟩⟩
    obtain ⟨S9, W9, s9, h9, so9, ho9⟩ := W8.newL nt3 (.tup ((zs.map (·.1)).map V.str).reverse) so8 ho8
    refine ⟨_, rfl, fun x4 dx nx ndx nxd => ?_⟩
    rw [← List.map_reverse] at h9
    refine spLInit.mono (fun v H10 ⟨ev, S10, P10, g10, a4⟩ => ⟨ev, ?_⟩) (make_lok (ys := (zs.map (·.1)).reverse) W9.pl (.inr (W9.ss _ _ h9)) (fun y hy => okk y (List.mem_reverse.mp hy)) (by rw [List.length_reverse]; exact k1) (by rw [List.length_reverse]; exact k10) ((List.reverse_perm _).nodup_iff.mpr gz.1) nhd po0 po1 fe0 fe1 x4 dx nx ndx nxd)
    obtain ⟨W10, s10⟩ := W9.then_ P10 g10
    obtain ⟨so10, ho10⟩ := g10.loc nop so9 ho9
    have s610 := s8.trans (s9.trans s10)
    have a1 := a1.mono s610
    have a2 := a2.mono s610
    have hsh10 := s610 _ _ hsh6
    have hro10 := s610 _ _ hro6
    have em : (zs.map (·.1)).mergeSort leS = (zs.map (·.1)).reverse.mergeSort leS := sortS_perm (List.reverse_perm _).symm
    rw [← em] at a4
    refine eq_lok (a2.mono W10.ss) (a4.mono W10.ss) nhd nhd okm okm fun H11 s11 => ⟨_, rfl, ?_⟩
    rw [decide_eq_true ⟨rfl, rfl, rfl⟩, decide_eq_true rfl]
    have W11 := W10.more s11
    have ho11 := s11 _ _ ho10
    clear s7 s11 W6 W7 W8 W9 W10 s6 s8 s9 s10 s610 so6 so8 so9 ho6 ho7 ho8 ho9 ho10 hsh6 hro6 hsh4 hro4 hsh2 hro2 h8 h9 g6 g10 P6 P10
    -- never equal
    refine ⟨_, rfl, _, rfl, ?_⟩
    refine eq_sl nf1 (a1.mono W11.ss) (a2.mono W11.ss) nhd ⟨_, rfl, ?_⟩
    refine ⟨_, rfl, _, rfl, ?_⟩
    refine eq_ls nf2 (a2.mono W11.ss) (a1.mono W11.ss) nhd okm ⟨_, rfl, ?_⟩
    -- a change
    refine ⟨_, rfl, p, S10, 4, rfl, by decide, by decide, W11.pl, fun kd S12 H12 P12 g12 kd0 kd1 => ?_⟩
    obtain ⟨W12, s12⟩ := W11.then_ P12 g12
    obtain ⟨so12, ho12⟩ := g12.loc nop so10 ho11
    have a1 := a1.mono s12
    have a2 := a2.mono s12
    have hsh12 := s12 _ _ hsh10
    have hro12 := s12 _ _ hro10
    clear s12 g12 P12 W11 ho11 so10 hsh10 hro10
    show C8.tCut _ _ _ [some (.ref p), some (.str hd), some (.int po), some (.ref sh), some (.ref ro), some (.int fe), some (.ref x1), some (.ref x2), some (.ref o), u, some (.int kd), none, none] _
    refine ⟨fun σ' H' => ∃ (S' : Hp) (hd' : Str), σ' = [some (.ref p), some (.str hd'), some (.int po), some (.ref sh), some (.ref ro), some (.int fe), some (.ref x1), some (.ref x2), some (.ref o), u, some (.int kd), none, none] ∧ Wd p S0 H S' H' ∧ Same S12 S' ∧ S' o = none ∧ H' o = some (.dK (dS rz)) ∧ NameOk hd', ?_, ?_⟩
    · refine ⟨_, rfl, rfl, _, rfl, ite2 (fun c => ?_) (fun c => ?_)⟩
      · refine ⟨_, rfl, _, rfl, by show 1 ≤ sizeLine; decide, fun l hl => ?_⟩
        obtain ⟨S13, W13, s13, h13, so13, ho13⟩ := W12.newL hl (.lst ([hd].map V.str)) so12 ho12
        refine ⟨p, l, S13, [hd], rfl, W13.pl, W13.ss _ _ h13, fun z => W12.pl.has (by rw [← z]; exact hl), by show 1 < 26; decide, fun z S14 H14 nz _ P14 g14 => ?_⟩
        obtain ⟨W14, s14⟩ := W13.then_ P14 g14
        obtain ⟨so14, ho14⟩ := g14.loc nop so13 ho13
        exact ⟨S14, z, rfl, W14, s13.trans s14, so14, ho14, nz⟩
      · exact ⟨S12, hd, rfl, W12, Same.refl _, so12, ho12, nhd⟩
    rintro σ' H13 ⟨S13, hd', rfl, W13, s13, so13, ho13, nhd'⟩
    refine ⟨fun σ' H' => ∃ po' : Int, σ' = [some (.ref p), some (.str hd'), some (.int po'), some (.ref sh), some (.ref ro), some (.int fe), some (.ref x1), some (.ref x2), some (.ref o), u, some (.int kd), none, none] ∧ H' = H13 ∧ 0 ≤ po' ∧ po' ≤ 1, ?_, ?_⟩
    · refine ⟨_, rfl, rfl, _, rfl, ite2 (fun c => ?_) (fun c => ?_)⟩
      · exact ⟨_, rfl, _, _, rfl, rfl, 1 - po, rfl, rfl, by omega, by omega⟩
      · exact ⟨po, rfl, rfl, po0, po1⟩
    rintro σ' H13' ⟨po', rfl, rfl, po0', po1'⟩
    have a1 := a1.mono s13
    have a2 := a2.mono s13
    have hsh13 := s13 _ _ hsh12
    have hro13 := s13 _ _ hro12
    clear s13 hsh12 hro12 W12 so12 ho12
    refine ⟨fun σ' H' => ∃ (S' : Hp) (oz : ZZ) (u' : Option V) (ro' : V), σ' = [some (.ref p), some (.str hd'), some (.int po'), some (.ref sh), some ro', some (.int fe), some (.ref x1), some (.ref x2), some (.ref o), u', some (.int kd), none, none] ∧ Wd p S0 H S' H' ∧ Same S13 S' ∧ S' o = none ∧ H' o = some (.dK (dS oz)) ∧ goodZ oz ∧ (kd ≠ 2 → ro' = .ref ro ∧ oz = rz), ?_, ?_⟩
    · refine ⟨_, rfl, rfl, _, rfl, ite2 (fun c => ?_) (fun c => ?_)⟩
      · have ek : kd = 2 := V.int.inj (of_decide_eq_true c)
        refine ⟨_, rfl, sh, _, zs.map (·.1), rfl, .inl (W13.ss _ _ hsh13), keys_dS zs, by omega, fun ys2 l5 hp2 hsr2 n5 => ?_⟩
        obtain ⟨S14, W14, s14, h14, so14, ho14⟩ := W13.newL n5 (.lst (ys2.map V.str)) so13 ho13
        have ly2 : ys2.length = zs.length := by rw [hp2.length_eq, kl]
        have z1 := gz.2.2.1
        refine ⟨_, rfl, _, rfl, sh, _, rfl, .inl ⟨_, W14.ss _ _ (s14 _ _ hsh13), rfl⟩, p, S14, _, rfl, by rw [dS_len]; omega, by rw [dS_len]; omega, W14.pl, fun d S15 H15 P15 g15 d0 d1 => ?_⟩
        obtain ⟨W15, s15⟩ := W14.then_ P15 g15
        obtain ⟨so15, ho15⟩ := g15.loc nop so14 ho14
        rw [dS_len] at d1
        obtain ⟨vy, evy, mvy⟩ := at_all (xs := ys2.map V.str) d0 (by rw [List.length_map, ly2]; exact d1)
        obtain ⟨y, hy, rfl⟩ := List.mem_map.mp mvy
        refine ⟨l5, _, _, _, rfl, rfl, SqL.of (W15.ss _ _ (s15 _ _ h14)), evy, ?_⟩
        refine ⟨_, rfl, p, 1, S15, rfl, P15, by decide, by decide, fun r5 z5 S16 H16 P16 g16 hr16 lz16 okz16 _ => ?_⟩
        obtain ⟨W16, s16⟩ := W15.then_ P16 g16
        obtain ⟨so16, ho16⟩ := g16.loc nop so15 ho15
        obtain ⟨z, rfl⟩ : ∃ z, z5 = [z] := one_of lz16
        have hyk : y ∈ rz.map (·.1) := by
          have : y ∈ zs.map (·.1) := hp2.mem_iff.mp hy
          obtain ⟨x, hx, rfl⟩ := List.mem_map.mp this
          exact List.mem_map.mpr ⟨x, by rw [erz]; exact (rev_mem gz x).mpr hx, rfl⟩
        refine ⟨r5, _, 0, .str z, rfl, rfl, SqL.of (W16.ss _ _ hr16), atI_nat (j := 0) rfl, _, rfl, _, rfl, o, _, rfl, DPut.k (k := .inr y) ho16 (by rw [dS_len]; have := gr.2.2.2; exact small1000 (by omega)), ?_⟩
        rw [put_old hyk]
        have W17 := W16.put (o := .dK (dS (setZ rz y z))) H0o so16 nop
        have hro17 := s16 _ _ (s15 _ _ (s14 _ _ hro13))
        refine ⟨_, rfl, _, rfl, _, rfl, ro, _, rfl, SqL.of (W17.ss _ _ hro17), fun l6 n6 => ?_⟩
        obtain ⟨S18, W18, s18, h18, so18, ho18⟩ := W17.newL n6 (.lst (cutV ((zs.map (·.1)).map V.str) none (some (-1)))) so16 upd_same
        exact ⟨S18, setZ rz y z, _, .ref l6, rfl, W18, s14.trans (s15.trans (s16.trans s18)), so18, ho18, setZ_good gr (okz16 z (by simp)), fun c => absurd ek c⟩
      · exact ⟨S13, rz, u, .ref ro, rfl, W13, Same.refl _, so13, ho13, gr, fun _ => ⟨rfl, rfl⟩⟩
    rintro σ' H14 ⟨S14, oz, u', ro', rfl, W14, s14, so14, ho14, goz, hk2⟩
    have a1 := a1.mono s14
    have a2 := a2.mono s14
    have hsh14 := s14 _ _ hsh13
    have hro14 := s14 _ _ hro13
    clear s14 hsh13 hro13 W13 so13 ho13
    refine ⟨fun σ' H' => ∃ (S' : Hp) (fe' : Int), σ' = [some (.ref p), some (.str hd'), some (.int po'), some (.ref sh), some ro', some (.int fe'), some (.ref x1), some (.ref x2), some (.ref o), u', some (.int kd), none, none] ∧ Wd p S0 H S' H' ∧ Same S14 S' ∧ H' o = some (.dK (dS oz)) ∧ 1 ≤ fe' ∧ fe' ≤ 1000, ?_, ?_⟩
    · refine ⟨_, rfl, rfl, _, rfl, ite2 (fun c => ?_) (fun c => ?_)⟩
      · refine ⟨_, rfl, p, S14, 1000, rfl, by decide, by decide, W14.pl, fun d S15 H15 P15 g15 d0 d1 => ⟨_, _, rfl, rfl, ?_⟩⟩
        obtain ⟨W15, s15⟩ := W14.then_ P15 g15
        obtain ⟨so15, ho15⟩ := g15.loc nop so14 ho14
        exact ⟨S15, 1 + d, rfl, W15, s15, ho15, by omega, by omega⟩
      · exact ⟨S14, fe, rfl, W14, Same.refl _, ho14, fe0, fe1⟩
    rintro σ' H15 ⟨S15, fe', rfl, W15, s15, ho15, fe0', fe1'⟩
    -- the second one
    refine ⟨_, rfl, _, rfl, _, rfl, _, rfl, fun x5 dx nx ndx nxd => ?_⟩
    refine spSInit.mono (fun v H16 ⟨ev, S16, P16, g16, a5⟩ => ⟨ev, ?_⟩) (make_sen W15.pl ho15 goz nhd' po0' po1' fe0' fe1' x5 dx nx ndx nxd)
    obtain ⟨W16, s16⟩ := W15.then_ P16 g16
    have ho16 := g16.rs _ _ nop ho15
    have s1416 := s15.trans s16
    have a1 := a1.mono s1416
    have a2 := a2.mono s1416
    have hsh16 := s1416 _ _ hsh14
    have hro16 := s1416 _ _ hro14
    have b1 := a1.mono W16.ss
    show C8.tCut _ _ _ [some (.ref p), some (.str hd'), some (.int po'), some (.ref sh), some ro', some (.int fe'), some (.ref x1), some (.ref x2), some (.ref o), u', some (.int kd), some (.ref x5), none] _
    obtain ⟨sm, esm⟩ : ∃ sm, sm = (decide (hd = hd') && (decide (po = po') && (sameZ zs oz && decide (fe = fe')))) := ⟨_, rfl⟩
    refine ⟨fun σ' H' => σ' = [some (.ref p), some (.str hd'), some (.int po'), some (.ref sh), some ro', some (.int fe'), some (.ref x1), some (.ref x2), some (.ref o), u', some (.int kd), some (.ref x5), some (.bl sm)] ∧ H' = H16, ?_, ?_⟩
    · refine ⟨_, rfl, ?_⟩
      refine prop_sen kS b1 ⟨_, rfl, rfl, _, rfl, ?_⟩
      rw [dv]
      by_cases c1 : hd = hd'
      · rw [decide_eq_true c1]
        refine ⟨_, rfl, ?_⟩
        refine prop_sen kS b1 ⟨_, rfl, rfl, _, rfl, ?_⟩
        rw [dI]
        by_cases c2 : po = po'
        · rw [decide_eq_true c2]
          refine ⟨_, rfl, _, rfl, sh, o, kS2 zs, kS2 oz, rfl, rfl, by rw [← dS_vS]; exact W16.ss _ _ hsh16, by rw [← dS_vS]; exact ho16, _, rfl, ?_⟩
          cases c3 : sameS (kS2 zs) (kS2 oz) with
          | true =>
            refine ⟨_, rfl, ?_⟩
            refine prop_sen kS b1 ⟨_, rfl, rfl, ?_⟩
            rw [dI]
            refine ⟨?_, rfl⟩
            rw [esm, decide_eq_true c1, decide_eq_true c2, show sameZ zs oz = true from c3]
            rfl
          | false =>
            refine ⟨?_, rfl⟩
            rw [esm, decide_eq_true c1, decide_eq_true c2, show sameZ zs oz = false from c3]
            rfl
        · rw [decide_eq_false c2]
          refine ⟨?_, rfl⟩
          rw [esm, decide_eq_true c1, decide_eq_false c2]
          rfl
      · rw [decide_eq_false c1]
        refine ⟨?_, rfl⟩
        rw [esm, decide_eq_false c1]
        rfl
    rintro σ' H16' ⟨rfl, rfl⟩
    refine ⟨_, rfl, _, rfl, ?_⟩
    refine eq_sen b1 (a5.mono W16.ss) nhd nhd' fun H17 s17 => ⟨_, rfl, rfl, _, rfl, ?_⟩
    rw [same_shows gz goz, dB (decide (hd = hd' ∧ po = po' ∧ fe = fe') && sameZ zs oz) sm (by rw [and4, esm])]
    refine ⟨_, rfl, _, rfl, ?_⟩
    refine eq_sen ((a5.mono W16.ss).mono s17) (b1.mono s17) nhd' nhd fun H18 s18 => ⟨_, rfl, rfl, _, rfl, ?_⟩
    rw [same_shows goz gz, same_comm gz goz, dB (decide (hd' = hd ∧ po' = po ∧ fe' = fe) && sameZ zs oz) sm (by rw [and4, esm, dec_comm hd' hd, dec_comm po' po, dec_comm fe' fe])]
    refine ⟨_, rfl, rfl, _, rfl, ?_⟩
    rw [dI]
    by_cases ck : kd = 2
    · rw [decide_eq_true ck]
      exact q _
    · rw [decide_eq_false ck]
      obtain ⟨rfl, rfl⟩ := hk2 ck
      have s1618 := s17.trans s18
      have W18 := W16.more s1618
      refine ⟨_, rfl, _, rfl, _, rfl, _, rfl, _, rfl, fun x6 dx nx ndx nxd => ?_⟩
      refine spLInit.mono (fun v H19 ⟨ev, S19, P19, g19, a6⟩ => ⟨ev, ?_⟩) (make_lok W18.pl (.inl (W18.ss _ _ hro16)) okk k1 k10 gz.1 nhd' po0' po1' fe0' fe1' x6 dx nx ndx nxd)
      obtain ⟨W19, s19⟩ := W18.then_ P19 g19
      refine eq_lok ((a2.mono s19).mono W19.ss) (a6.mono W19.ss) nhd nhd' okm okm fun H20 s20 => ⟨_, rfl, rfl, ?_⟩
      rw [decide_eq_true (rfl : (zs.map (·.1)).mergeSort leS = (zs.map (·.1)).mergeSort leS), dB (decide (hd = hd' ∧ po = po' ∧ fe = fe') && true) sm (by rw [and4, esm, same0])]
      exact q _
end
end WW

set_option Elab.async false
set_option linter.all false
set_option maxRecDepth 100000
set_option maxHeartbeats 4000000
namespace WW
open PySem PySem.Spec PyProof.Rows L2
section
variable {K : PySem.W.Frag} {S S' H : Hp} {v u : V} {b : Bool}
theorem kn_dict {n : Nat} {d : PyData} (h : Sz n d = true) : kn d ≠ "dict" := by
  cases d with
  | dict _ => cases n <;> cases h
  | _ => simp [kn]
theorem SrQ.th (h : SrQ K S v u b) : ThQ K S v ∧ ThQ K S u := by
  cases h with
  | bad a c => exact ⟨a.2.1, c.2.1⟩
  | good n m g =>
    refine ⟨.dk n (fun q hq => ?_) (dS_nd g.1), .dat ⟨_, .lst (SqL.of m) (strs_dp _), names_sz (fun z hz => ?_) ?_⟩⟩
    · obtain ⟨r, hr, rfl⟩ := List.mem_map.mp hq
      exact .inr ⟨_, rfl, sl_ok (g.2.1 r hr).2.2.1⟩
    · obtain ⟨r, hr, rfl⟩ := List.mem_map.mp hz
      exact (g.2.1 r hr).1
    · rw [List.length_map]
      have := g.2.2.2
      omega
theorem odd_keyT {k : V} {e : DictEntry} (r : RelV k e.key) (o : OddK H k) : e.key = .none ∨ ∃ t ys, e.key = .ref t ∧ H t = some (.tup ys) := by
  rcases o with rfl | ⟨t, xs, rfl, h⟩
  · exact .inl r
  · exact .inr ⟨t, xs, r, h⟩
theorem dS_inj : ∀ l m : ZZ, dS l = dS m → l = m := fun l => by
  induction l with
  | nil => intro m h; cases m with
    | nil => rfl
    | cons _ _ => cases h
  | cons q r ih =>
    intro m h
    cases m with
    | nil => cases h
    | cons q' r' =>
      injection h with h1 h2
      injection h1 with h3 h4
      obtain ⟨q1, q2⟩ := q
      obtain ⟨q1', q2'⟩ := q'
      have h3 : q1 = q1' := Sum.inr.inj h3
      have h4 : q2 = q2' := V.str.inj h4
      rw [ih r' h2, h3, h4]
theorem str_inj {l m : List Str} (h : l.map V.str = m.map V.str) : l = m := List.map_inj_right (fun _ _ e => V.str.inj e) |>.mp h
theorem al_ix {i : Nat} {t p g g' c v : V} (h : [t, p, g, c][i]? = some v) (a0 : AlQ K H 4 t t) (a1 : AlQ K H 4 p p) (a2 : AlQ K H 4 g g') (a3 : AlQ K H 4 c c) : ∃ x, [t, p, g', c][i]? = some x ∧ AlQ K H 4 v x := by
  match i, h with
  | 0, h => cases h; exact ⟨_, rfl, a0⟩
  | 1, h => cases h; exact ⟨_, rfl, a1⟩
  | 2, h => cases h; exact ⟨_, rfl, a2⟩
  | 3, h => cases h; exact ⟨_, rfl, a3⟩
  | n + 4, h => simp at h
theorem in_bs (b0 b1 b2 b3 : Bool) : inV (.bl true) ([b0, b1, b2, b3].map V.bl) = (b0 || (b1 || (b2 || b3))) := by
  cases b0 <;> cases b1 <;> cases b2 <;> cases b3 <;> rfl
theorem lw_some {a : Addr} {ys ks : List Str} (h : LwQ K H (.ref a) (some ys)) (ha : H a = some (.lst (ks.map V.str))) : ys = ks := by
  generalize eo : some ys = o at h
  cases h with
  | bad _ => cases eo
  | @row a' zs h _ _ =>
    have e : zs = ks := by
      rcases h with h | h
      · rw [ha] at h
        exact (str_inj (HO.lst.inj (Option.some.inj h))).symm
      · rw [ha] at h
        cases h
    split at eo
    · rw [← e]
      exact Option.some.inj eo
    · cases eo
/-- which thing is the first wrong one -/
def gvn (i : Nat) (t p g c : V) : Option V := [t, p, g, c][i]?
theorem bo_ix {sn b0 b1 b2 b3 : Bool} {t p g c v : V} {z : Str} (h : bo sn b0 b1 b2 b3 t p g c = some (z, v)) : [b0, b1, b2, b3].idxOf true < 4 ∧ ([("name" : Str), "post", if sn = true then "sights" else "words", "cost"])[[b0, b1, b2, b3].idxOf true]? = some z ∧ [t, p, g, c][[b0, b1, b2, b3].idxOf true]? = some v := by
  cases b0 <;> cases b1 <;> cases b2 <;> cases b3 <;> simp [bo] at h <;> obtain ⟨rfl, rfl⟩ := h <;> exact ⟨by decide, rfl, rfl⟩
theorem bo_none {sn b0 b1 b2 b3 : Bool} {t p g c : V} : (bo sn b0 b1 b2 b3 t p g c).isSome = (b0 || (b1 || (b2 || b3))) := by
  cases b0 <;> cases b1 <;> cases b2 <;> cases b3 <;> rfl
end
section
variable {P : Program} {w : World} {K : PySem.W.Frag} {mg : Str → Option Value} {base : Heap} {f f1 f2 f3 f4 f5 f6 f7 f8 CS CL : Addr} {fd fd1 fd2 fd3 fd4 fd5 fd6 fd7 fd8 : FuncData}
abbrev sLaw : Stmt := topS 41
abbrev nLaw : List Str := ["_law_script", "_law_pool_here", "_law_spoils", "_law_head", "_law_post", "_law_shown", "_law_row", "_law_fee", "_law_passed", "_law_found", "_law_lines", "_law_second"]
theorem scLaw : FnScope nLaw ["_law_script"] (defScope sLaw) := ⟨rfl, rfl, rfl, by decide +kernel, rfl, by decide +kernel, by decide +kernel⟩
def AtS (CS : Addr) (H : Hp) (a : Addr) (t p c : V) (ys : List Str) : Prop := ∃ zs, SenAt CS H a t p c zs ∧ zs.map (·.1) = ys
theorem tellS (kS : Kl K CS) : TellC K CS (AtS CS) (spSWords K CS) where
  mono := fun s ⟨zs, h, e⟩ => ⟨zs, h.mono s, e⟩
  ins := fun ⟨zs, h, e⟩ => h.ins
  run := fun {H a t p c ys Q E} ⟨zs, h, e⟩ q => ⟨a, t, p, c, zs, rfl, h, kS, fun r n => by rw [e]; exact q r n⟩
theorem tellL (kL : Kl K CL) : TellC K CL (LokAt CL) (spLWords K CL) where
  mono := fun s h => h.mono s
  ins := fun h => h.ins
  run := fun {H a t p c ys Q E} h q => ⟨a, t, p, c, ys, rfl, h, kL, q⟩
def spLaw (K : PySem.W.Frag) : Sp := fun vs H Q _ => ∃ (a : Addr) (ns : List Int), vs = [.ref a] ∧ SqL K H a (ns.map V.int) ∧ ns.length ≤ 63 ∧ ∀ H', Q (.bl true) H'
theorem ok_law (F : Fun K "law" "law" sLaw f fd) (T : Bl mg) (Tdict : mg "dict" = none)
    (DLpool : Df K mg "_law_pool" sLpool ["_law_script"] f1 fd1) (GLpool : FnOk P w K mg base CX0 1 f1 fd1 ["_law_script"] (spPool K))
    (DLarguments : Df K mg "_law_arguments" sLarguments ["_law_pool_here"] f2 fd2) (GLarguments : FnOk P w K mg base CX0 4 f2 fd2 ["_law_pool_here"] (spArgs K))
    (DLbuilt : Df K mg "_law_built" sLbuilt ["_law_is_sensor", "_law_head", "_law_post", "_law_third", "_law_fee"] f3 fd3) (GLbuilt : FnOk P w K mg base CX0 7 f3 fd3 ["_law_is_sensor", "_law_head", "_law_post", "_law_third", "_law_fee"] (spBuilt K CS CL))
    (DLrefused : Df K mg "_law_refused" sLrefused ["_law_found", "_law_spoils", "_law_given", "_law_kinds"] f4 fd4) (GLrefused : FnOk P w K mg base CX0 7 f4 fd4 ["_law_found", "_law_spoils", "_law_given", "_law_kinds"] (spRef K))
    (DLtells : Df K mg "_law_tells" sLtells ["_law_one", "_law_head", "_law_post", "_law_words", "_law_fee"] f5 fd5) (GLtells : FnOk P w K mg base CX0 7 f5 fd5 ["_law_one", "_law_head", "_law_post", "_law_words", "_law_fee"] (spTells (AtS CS))) (GLtellsL : FnOk P w K mg base CX0 7 f5 fd5 ["_law_one", "_law_head", "_law_post", "_law_words", "_law_fee"] (spTells (LokAt CL)))
    (DLsensor_tells : Df K mg "_law_sensor_tells" sLsensor_tells ["_law_one", "_law_shown"] f6 fd6) (GLsensor_tells : FnOk P w K mg base CX0 3 f6 fd6 ["_law_one", "_law_shown"] (spSTells CS))
    (DLtwins : Df K mg "_law_twins" sLtwins ["_law_pool_here", "_law_head", "_law_post", "_law_shown", "_law_row", "_law_fee"] f7 fd7) (GLtwins : FnOk P w K mg base CX0 7 f7 fd7 ["_law_pool_here", "_law_head", "_law_post", "_law_shown", "_law_row", "_law_fee"] spTwins) :
    FnOk P w K mg base CX0 8 f fd ["_law_script"] (spLaw K) := by
  refine F.ok scLaw (fun vs H Q E h => ?_) (fun cdv A outer s H vs Q E hr h => ?_)
  · obtain ⟨a, ns, rfl, _⟩ := h
    rfl
  · obtain ⟨sc, ns, rfl, hsc, hns, q⟩ := h
    refine ⟨_, (pss_cons (ps_set (i := 1) scLaw.nd rfl (Or.inl rfl) (pe_df DLpool GLpool (hr.mono (by decide)) (pa_cons (pv 0) pa_nil)))
      (pss_cons (ps_asg (pe_df DLarguments GLarguments (hr.mono (by decide)) (pa_cons (pv 1) pa_nil)) (pg_tup rfl (pgs_cons (pg_name (i := 2) scLaw.nd rfl (Or.inl rfl)) (pgs_cons (pg_name (i := 3) scLaw.nd rfl (Or.inl rfl)) (pgs_cons (pg_name (i := 4) scLaw.nd rfl (Or.inl rfl)) (pgs_cons (pg_name (i := 5) scLaw.nd rfl (Or.inl rfl)) (pgs_cons (pg_name (i := 6) scLaw.nd rfl (Or.inl rfl)) (pgs_cons (pg_name (i := 7) scLaw.nd rfl (Or.inl rfl)) pgs_nil))))))))
      (pss_cons (ps_set (i := 8) scLaw.nd rfl (Or.inl rfl) (pv 5))
      (C8.pss_cut (ps_if (pt_val (pe_callB call_isiY (by rfl) T.isinstance (by decide +kernel) (pa_cons (pv 5) (pa_cons (pe_bltn (v := .ty "dict") (by rfl) Tdict (by decide +kernel) rfl) pa_nil)))) (pss_one (ps_set (i := 8) scLaw.nd rfl (Or.inl rfl) (pe_copyA (pv 5)))) pss_nil)
      (C8.pss_cut (ps_set (i := 9) scLaw.nd rfl (Or.inl rfl) (pe_df DLbuilt GLbuilt (hr.mono (by decide)) (pa_cons pe_bl (pa_cons (pv 3) (pa_cons (pv 4) (pa_cons (pv 8) (pa_cons (pv 7) pa_nil)))))))
      (pss_cons (ps_set (i := 10) scLaw.nd rfl (Or.inl rfl) (pv 6))
      (C8.pss_cut (ps_if (pt_val (pe_callB call_isiY (by rfl) T.isinstance (by decide +kernel) (pa_cons (pv 6) (pa_cons (pe_bltn (v := .ty "list") (by rfl) T.list (by decide +kernel) rfl) pa_nil)))) (pss_one (ps_set (i := 10) scLaw.nd rfl (Or.inl rfl) (pe_callTy call_list_of (by rfl) T.list (by decide +kernel) (pa_cons (pv 6) pa_nil)))) pss_nil)
      (C8.pss_cut (ps_set (i := 11) scLaw.nd rfl (Or.inl rfl) (pe_df DLbuilt GLbuilt (hr.mono (by decide)) (pa_cons pe_bl (pa_cons (pv 3) (pa_cons (pv 4) (pa_cons (pv 10) (pa_cons (pv 7) pa_nil)))))))
      (pss_cons (ps_if (pt_cmpR op_in_seq pe_bl (pv 2) (by rfl)) (pss_cons (ps_if (pt_not (pt_val (pe_df DLrefused GLrefused (hr.mono (by decide)) (pa_cons (pv 9) (pa_cons (pv 2) (pa_cons (pe_lst (pa_cons (pv 3) (pa_cons (pv 4) (pa_cons (pv 5) (pa_cons (pv 7) pa_nil))))) (pa_cons (pe_lst (pa_cons pe_str (pa_cons pe_str (pa_cons pe_str (pa_cons pe_str pa_nil))))) pa_nil))))))) (pss_one (ps_ret pe_bl)) pss_nil)
      (pss_one (ps_ret (pe_df DLrefused GLrefused (hr.mono (by decide)) (pa_cons (pv 11) (pa_cons (pv 2) (pa_cons (pe_lst (pa_cons (pv 3) (pa_cons (pv 4) (pa_cons (pv 6) (pa_cons (pv 7) pa_nil))))) (pa_cons (pe_lst (pa_cons pe_str (pa_cons pe_str (pa_cons pe_str (pa_cons pe_str pa_nil))))) pa_nil)))))))) pss_nil)
      (pss_cons (ps_if (PW.pt (pw_or (pt_cmpR op_ne (pe_ix ix_tup (pv 9) pe_int (fun _ _ => rfl)) pe_str (nomark _)) (pw_or1 (pt_cmpR op_ne (pe_ix ix_tup (pv 11) pe_int (fun _ _ => rfl)) pe_str (nomark _))))) (pss_one (ps_ret pe_bl)) pss_nil)
      (pss_cons (ps_if (PW.pt (pw_or (pt_cmpR (op_neDS (hu0 hr)) (pv 8) (pv 5) (nomark _)) (pw_or1 (pt_cmpR (op_neD hr.units) (pv 10) (pv 6) (nomark _))))) (pss_one (ps_ret pe_bl)) pss_nil)
      (pss_cons (ps_expr (pe_bm0 PySem.F.plainAttrs_dict PySem.F.slot_dict_clear PySem.F.type_dict_clear mt_clearD (pv 8)))
      (pss_cons (ps_expr (pe_bm0 PySem.F.plainAttrs_list PySem.F.slot_list_clear PySem.F.type_list_clear mt_clear (pv 10)))
      (pss_cons (ps_if (PW.pt (pw_or (pt_not (pt_val (pe_df DLtells GLtells (hr.mono (by decide)) (pa_cons (pe_ix ix_tup (pv 9) pe_int (fun _ _ => rfl)) (pa_cons (pv 3) (pa_cons (pv 4) (pa_cons (pe_callTy (call_list_dK rfl) (by rfl) T.list (by decide +kernel) (pa_cons (pv 5) pa_nil)) (pa_cons (pv 7) pa_nil)))))))) (pw_or1 (pt_not (pt_val (pe_df DLsensor_tells GLsensor_tells (hr.mono (by decide)) (pa_cons (pe_ix ix_tup (pv 9) pe_int (fun _ _ => rfl)) (pa_cons (pv 5) pa_nil)))))))) (pss_one (ps_ret pe_bl)) pss_nil)
      (pss_one (ps_ret (pe_and (pe_df DLtells GLtellsL (hr.mono (by decide)) (pa_cons (pe_ix ix_tup (pv 11) pe_int (fun _ _ => rfl)) (pa_cons (pv 3) (pa_cons (pv 4) (pa_cons (pv 6) (pa_cons (pv 7) pa_nil)))))) (pe_one (pe_df DLtwins GLtwins (hr.mono (by decide)) (pa_cons (pv 1) (pa_cons (pv 3) (pa_cons (pv 4) (pa_cons (pv 5) (pa_cons (pv 6) (pa_cons (pv 7) pa_nil))))))))))))))))))))))))), ?_⟩
    refine ⟨_, rfl, sc, ns, rfl, hsc, hns, fun p S0 H0 P0 _ => ?_⟩
    refine ⟨_, rfl, p, S0, rfl, P0, fun tt sp b0 b1 b2 b3 hd po sh ro fe S1 H1 ht hsp q0 q1 q2 q3 P1 g1 => ?_⟩
    have W1 : Wd p S1 H1 S1 H1 := ⟨P1, Gr.refl⟩
    clear g1 P0
    refine ⟨tt, _, rfl, SqT.of (W1.ss _ _ ht), rfl, _, _, rfl, _, _, rfl, _, _, rfl, _, _, rfl, _, _, rfl, _, _, rfl, ?_⟩
    refine ⟨rfl, _, rfl, ?_⟩
    show C8.tCut _ _ _ [some (.ref sc), some (.ref p), some (.ref sp), some hd, some po, some sh, some ro, some fe, some sh, none, none, none] _
    have ths := q2.th
    -- what is passed
    refine ⟨fun σ' H' => ∃ pa, σ' = [some (.ref sc), some (.ref p), some (.ref sp), some hd, some po, some sh, some ro, some fe, some pa, none, none, none] ∧ Wd p S1 H1 S1 H' ∧ AlQ K H' 4 pa sh ∧ (b2 = true → SgQ K H' pa false) ∧ (b2 = false → ∃ a zs, pa = .ref a ∧ a ≠ p ∧ S1 a = none ∧ H1 a = none ∧ H' a = some (.dK (dS zs)) ∧ goodZ zs ∧ ∃ a0 b0, sh = .ref a0 ∧ S1 a0 = some (.dK (dS zs)) ∧ ro = .ref b0 ∧ S1 b0 = some (.lst ((zs.map (·.1)).map V.str))), ?_, ?_⟩
    · cases q2 with
      | bad h1 h2 =>
        obtain ⟨k1, k2, k3⟩ := h1
        rcases k3 with ⟨a, kvs, rfl, ha, hf, nd, all⟩ | ⟨a, e, ep, k, rfl, ha, rk, ok⟩ | ⟨n, kd, ne⟩
        · refine ⟨_, rfl, _, _, _, _, _, rfl, .ty "dict", .x (.base (.dK (W1.ss _ _ ha))), kit_dict (by decide), _, rfl, ?_⟩
          refine ⟨_, rfl, a, rfl, .inl ⟨kvs, W1.ss _ _ ha, fun a2 n2 => ?_⟩⟩
          have s2 := same_upd (o := .dK kvs) n2
          exact ⟨.ref a2, rfl, W1.put n2 (P1.ss.free n2) (fun z => P1.has (by rw [← z]; exact n2)), .dk upd_same (s2 _ _ (W1.ss _ _ ha)) hf nd, fun _ => all _ _ upd_same, fun c => by cases c⟩
        · refine ⟨_, rfl, _, _, _, _, _, rfl, .ty "dict", .raw (W1.ss _ _ ha), kit_dict (by decide), _, rfl, ?_⟩
          have ok1 := ok.mono W1.ss
          refine ⟨_, rfl, a, rfl, .inr ⟨e, ep, W1.ss _ _ ha, odd_keyT rk ok1, fun a2 n2 => ?_⟩⟩
          have s2 := same_upd (o := rawO a2 e 0) n2
          exact ⟨.ref a2, rfl, W1.put n2 (P1.ss.free n2) (fun z => P1.has (by rw [← z]; exact n2)), .raw upd_same (s2 _ _ (W1.ss _ _ ha)) rk (ok1.mono s2), fun _ => .raw upd_same rk (ok1.mono s2), fun c => by cases c⟩
        · refine ⟨_, rfl, _, _, _, _, _, rfl, .ty "dict", .x (kd.mono W1.ss).1, kit_dict kd.2.1, _, rfl, ?_⟩
          rw [beq_eq_false_iff_ne.mpr ne]
          exact ⟨sh, rfl, W1, (k2.mono W1.ss).al, fun _ => k1.mono W1.ss, fun c => by cases c⟩
      | @good a b zs ha hb g =>
        refine ⟨_, rfl, _, _, _, _, _, rfl, .ty "dict", .x (.base (.dK (W1.ss _ _ ha))), kit_dict (by decide), _, rfl, ?_⟩
        refine ⟨_, rfl, a, rfl, .inl ⟨_, W1.ss _ _ ha, fun a2 n2 => ?_⟩⟩
        have s2 := same_upd (o := .dK (dS zs)) n2
        have nap : a2 ≠ p := fun z => P1.has (by rw [← z]; exact n2)
        refine ⟨.ref a2, rfl, W1.put n2 (P1.ss.free n2) nap, .dk upd_same (s2 _ _ (W1.ss _ _ ha)) (fun q hq => ?_) (dS_nd g.1), (fun c => by cases c), fun _ => ⟨a2, zs, rfl, nap, P1.ss.free n2, n2, upd_same, g, a, b, rfl, ha, rfl, hb⟩⟩
        obtain ⟨r, hr, rfl⟩ := List.mem_map.mp hq
        exact .inr ⟨_, rfl, sl_ok (g.2.1 r hr).2.2.1⟩
    rintro σ' H2 ⟨pa, rfl, W2, al2, bad2, good2⟩
    -- the first one
    refine ⟨fun σ' H' => ∃ (r : Addr) (S' : Hp), σ' = [some (.ref sc), some (.ref p), some (.ref sp), some hd, some po, some sh, some ro, some fe, some pa, some (.ref r), none, none] ∧ Pool S' H' p ∧ Gr p S1 H2 S' H' ∧ Same H2 H' ∧ ((∃ z v, bo true b0 b1 b2 b3 hd po pa fe = some (z, v) ∧ S' r = some (.tup [.str z, v, .bl true])) ∨ (b0 = false ∧ b1 = false ∧ b2 = false ∧ b3 = false ∧ ∃ x zs a, pa = .ref a ∧ H2 a = some (.dK (dS zs)) ∧ S' r = some (.tup [.str "told", .ref x]) ∧ SenAt CS S' x hd po fe (showZ zs))), ?_, ?_⟩
    · refine ⟨_, rfl, _, rfl, _, rfl, _, rfl, p, S1, true, b0, b1, b2, b3, hd, po, pa, fe, rfl, W2.pl, q0.mono W2.ss, q1.mono W2.ss, q3.mono W2.ss, (fun _ => ?_), (fun c => by cases c), fun z v e r S' H' P' g' sH hr' => ⟨r, S', rfl, P', g', sH, .inl ⟨z, v, e, hr'⟩⟩, fun e0 e1 e2 e3 _ a zs r x S' H' ea ha gz P' g' sH hr' hx => ⟨r, S', rfl, P', g', sH, .inr ⟨e0, e1, e2, e3, x, zs, a, ea, ha, hr', hx⟩⟩, fun _ _ _ _ c => by cases c⟩
      cases b2 with
      | true => exact bad2 rfl
      | false =>
        obtain ⟨a, zs, rfl, _, _, _, ha, g, _⟩ := good2 rfl
        exact sg_good ha g
    rintro σ' H3 ⟨r1, S3, rfl, P3, g3, sH3, fnd1⟩
    obtain ⟨W3, s3⟩ := W2.then_ P3 g3
    refine ⟨_, rfl, ?_⟩
    show C8.tCut _ _ _ [some (.ref sc), some (.ref p), some (.ref sp), some hd, some po, some sh, some ro, some fe, some pa, some (.ref r1), some ro, none] _
    have q2' := q2.mono s3
    refine ⟨fun σ' H' => ∃ li, σ' = [some (.ref sc), some (.ref p), some (.ref sp), some hd, some po, some sh, some ro, some fe, some pa, some (.ref r1), some li, none] ∧ Wd p S1 H1 S3 H' ∧ Same H3 H' ∧ AlQ K H' 4 li ro ∧ (b2 = true → LwQ K H' li none) ∧ (b2 = false → ∃ (a : Addr) (zs : ZZ), li = .ref a ∧ a ≠ p ∧ S3 a = none ∧ H3 a = none ∧ H' a = some (.lst ((zs.map (·.1)).map V.str)) ∧ goodZ zs ∧ ∃ b0, ro = .ref b0 ∧ S3 b0 = some (.lst ((zs.map (·.1)).map V.str))), ?_, ?_⟩
    · cases q2' with
      | bad h1 h2 =>
        obtain ⟨k1, k2, k3⟩ := h2
        rcases k3 with ⟨a, xs, rfl, ha, hl, gn, all⟩ | ⟨n, kd, ne⟩
        · refine ⟨_, rfl, _, _, _, _, _, rfl, .ty "list", .x (.base (.lst (W3.ss _ _ ha))), kit_list (by decide), _, rfl, ?_⟩
          refine ⟨_, rfl, a, xs, rfl, .inl (SqL.of (W3.ss _ _ ha)), fun a2 n2 => ?_⟩
          have s4 := same_upd (o := .lst xs) n2
          refine ⟨.ref a2, rfl, W3.put (W3.gr.bk n2) (P3.ss.free n2) (fun z => P3.has (by rw [← z]; exact n2)), s4, ?_, fun _ => all _ _ (W3.ss.trans s4) upd_same, fun c => by cases c⟩
          obtain ⟨ds, e1, e2⟩ := gn_all gn
          have dl : ds.length ≤ 900 := by rw [← dpa_len e1]; exact hl
          exact .dat (.lst (SqL.of upd_same) (DpAll.mono (W3.ss.trans s4) e1)) (.lst (SqL.of (s4 _ _ (W3.ss _ _ ha))) (DpAll.mono (W3.ss.trans s4) e1)) (szT e2 dl)
        · refine ⟨_, rfl, _, _, _, _, _, rfl, .ty "list", .x (kd.mono W3.ss).1, kit_list kd.2.1, _, rfl, ?_⟩
          rw [beq_eq_false_iff_ne.mpr ne]
          exact ⟨ro, rfl, W3, Same.refl _, (k2.mono W3.ss).al, fun _ => k1.mono W3.ss, fun c => by cases c⟩
      | @good a b zs ha hb g =>
        refine ⟨_, rfl, _, _, _, _, _, rfl, .ty "list", .x (.base (.lst (W3.ss _ _ hb))), kit_list (by decide), _, rfl, ?_⟩
        refine ⟨_, rfl, b, _, rfl, .inl (SqL.of (W3.ss _ _ hb)), fun a2 n2 => ?_⟩
        have s4 := same_upd (o := .lst ((zs.map (·.1)).map V.str)) n2
        have nap : a2 ≠ p := fun z => P3.has (by rw [← z]; exact n2)
        refine ⟨.ref a2, rfl, W3.put (W3.gr.bk n2) (P3.ss.free n2) nap, s4, .dat (.lst (SqL.of upd_same) (strs_dp _)) (.lst (SqL.of (s4 _ _ (W3.ss _ _ hb))) (strs_dp _)) (names_sz (fun z hz => ?_) ?_), (fun c => by cases c), fun _ => ⟨a2, zs, rfl, nap, P3.ss.free n2, n2, upd_same, g, b, rfl, hb⟩⟩
        · obtain ⟨r, hr, rfl⟩ := List.mem_map.mp hz
          exact (g.2.1 r hr).1
        · rw [List.length_map]
          have := g.2.2.2
          omega
    rintro σ' H4 ⟨li, rfl, W4, sH4, al4, bad4, good4⟩
    -- the second one
    refine ⟨fun σ' H' => ∃ (r : Addr) (S' : Hp), σ' = [some (.ref sc), some (.ref p), some (.ref sp), some hd, some po, some sh, some ro, some fe, some pa, some (.ref r1), some li, some (.ref r)] ∧ Pool S' H' p ∧ Gr p S3 H4 S' H' ∧ Same H4 H' ∧ ((∃ z v, bo false b0 b1 b2 b3 hd po li fe = some (z, v) ∧ S' r = some (.tup [.str z, v, .bl true])) ∨ (b0 = false ∧ b1 = false ∧ b2 = false ∧ b3 = false ∧ ∃ x zs, LwQ K H4 li (some zs) ∧ S' r = some (.tup [.str "told", .ref x]) ∧ LokAt CL S' x hd po fe (zs.mergeSort leS))), ?_, ?_⟩
    · refine ⟨_, rfl, _, rfl, _, rfl, _, rfl, p, S3, false, b0, b1, b2, b3, hd, po, li, fe, rfl, W4.pl, q0.mono (s3.trans W4.ss), q1.mono (s3.trans W4.ss), q3.mono (s3.trans W4.ss), (fun c => by cases c), (fun _ => ?_), fun z v e r S' H' P' g' sH hr' => ⟨r, S', rfl, P', g', sH, .inl ⟨z, v, e, hr'⟩⟩, (fun _ _ _ _ c => by cases c), fun e0 e1 e2 e3 _ zs r x S' H' hl P' g' sH hr' hx => ⟨r, S', rfl, P', g', sH, .inr ⟨e0, e1, e2, e3, x, zs, hl, hr', hx⟩⟩⟩
      cases b2 with
      | true => exact ⟨none, bad4 rfl, rfl⟩
      | false =>
        obtain ⟨a, zs, rfl, _, _, _, ha, g, _⟩ := good4 rfl
        have := LwQ.row (K := K) (.inl ha) (fun z hz => by
          obtain ⟨r, hr, rfl⟩ := List.mem_map.mp hz
          exact (g.2.1 r hr).1) (by rw [List.length_map]; have := g.2.2.2; omega)
        rw [if_pos ⟨by rw [List.length_map]; exact g.2.2.1, by rw [List.length_map]; exact g.2.2.2, g.1⟩] at this
        exact ⟨_, this, rfl⟩
    rintro σ' H5 ⟨r2, S5, rfl, P5, g5, sH5, fnd2⟩
    obtain ⟨W5, s5⟩ := W4.then_ P5 g5
    have s15 := s3.trans s5
    have al5 := al2.mono (sH3.trans (sH4.trans sH5))
    have al6 := al4.mono sH5
    have hsp5 := s15 _ _ hsp
    refine ⟨_, rfl, sp, _, rfl, .inl (SqL.of (W5.ss _ _ hsp5)), rfl, by cases b0 <;> cases b1 <;> cases b2 <;> cases b3 <;> rfl, _, rfl, ?_⟩
    refine ite2 (fun c => ?_) (fun c => ?_)
    · have c : inV (.bl true) ([b0, b1, b2, b3].map V.bl) = true := c
      rw [in_bs] at c
      have t0 := ((q0.th).mono s15).al
      have t1 := ((q1.th).mono s15).al
      have t3 := ((q3.th).mono s15).al
      obtain ⟨z1, v1, e1, k1⟩ : ∃ z v, bo true b0 b1 b2 b3 hd po pa fe = some (z, v) ∧ S3 r1 = some (.tup [.str z, v, .bl true]) := by
        rcases fnd1 with h | ⟨rfl, rfl, rfl, rfl, _⟩
        · exact h
        · cases c
      obtain ⟨z2, v2, e2, k2⟩ : ∃ z v, bo false b0 b1 b2 b3 hd po li fe = some (z, v) ∧ S5 r2 = some (.tup [.str z, v, .bl true]) := by
        rcases fnd2 with h | ⟨rfl, rfl, rfl, rfl, _⟩
        · exact h
        · cases c
      obtain ⟨lt, zat1, vat1⟩ := bo_ix e1
      obtain ⟨_, zat2, vat2⟩ := bo_ix e2
      refine ⟨_, rfl, _, rfl, _, rfl, _, rfl, _, rfl, _, rfl, by show 4 ≤ sizeLine; decide, fun l1 n1 => ?_⟩
      have u1 := same_upd (o := .lst [hd, po, sh, fe]) n1
      have hl1 : upd H5 l1 (.lst [hd, po, sh, fe]) l1 = some (.lst [hd, po, sh, fe]) := upd_same
      generalize upd H5 l1 (.lst [hd, po, sh, fe]) = H6 at u1 hl1 ⊢
      refine ⟨by show 4 ≤ sizeLine; decide, fun l2 n2 => ?_⟩
      have u2 := same_upd (o := .lst ([("name" : Str), "post", "sights", "cost"].map V.str)) n2
      have u12 := u1.trans u2
      obtain ⟨x1, xat1, ax1⟩ := al_ix (vat1) (t0.mono (W5.ss.trans u12)) (t1.mono (W5.ss.trans u12)) (al5.mono u12) (t3.mono (W5.ss.trans u12))
      refine ⟨r1, sp, l1, l2, b0, b1, b2, b3, _, [("name" : Str), "post", "sights", "cost"], z1, v1, x1, rfl, u12 _ _ (W5.ss _ _ hsp5), lt, u2 _ _ hl1, xat1, upd_same, zat1, u12 _ _ (W5.ss _ _ (s5 _ _ k1)), ax1, fun H7 s7 => ⟨_, rfl, ?_⟩⟩
      have u7 := u12.trans s7
      refine ⟨_, rfl, _, rfl, _, rfl, _, rfl, _, rfl, _, rfl, by show 4 ≤ sizeLine; decide, fun l3 n3 => ?_⟩
      have u3 := same_upd (o := .lst [hd, po, ro, fe]) n3
      have hl3 : upd H7 l3 (.lst [hd, po, ro, fe]) l3 = some (.lst [hd, po, ro, fe]) := upd_same
      generalize upd H7 l3 (.lst [hd, po, ro, fe]) = H8 at u3 hl3 ⊢
      refine ⟨by show 4 ≤ sizeLine; decide, fun l4 n4 => ?_⟩
      have u4 := same_upd (o := .lst ([("name" : Str), "post", "words", "cost"].map V.str)) n4
      have u8 := u7.trans (u3.trans u4)
      obtain ⟨x2, xat2, ax2⟩ := al_ix (vat2) (t0.mono (W5.ss.trans u8)) (t1.mono (W5.ss.trans u8)) (al6.mono u8) (t3.mono (W5.ss.trans u8))
      exact ⟨r2, sp, l3, l4, b0, b1, b2, b3, _, [("name" : Str), "post", "words", "cost"], z2, v2, x2, rfl, u8 _ _ (W5.ss _ _ hsp5), lt, u4 _ _ hl3, xat2, upd_same, zat2, u8 _ _ (W5.ss _ _ k2), ax2, fun H9 s9 => q H9⟩
    · have c : ¬ inV (.bl true) ([b0, b1, b2, b3].map V.bl) = true := c
      rw [in_bs] at c
      obtain ⟨rfl, rfl, rfl, rfl, x1, zs, a, epa, ha, k1, a1⟩ : b0 = false ∧ b1 = false ∧ b2 = false ∧ b3 = false ∧ ∃ x zs a, pa = .ref a ∧ H2 a = some (.dK (dS zs)) ∧ S3 r1 = some (.tup [.str "told", .ref x]) ∧ SenAt CS S3 x hd po fe (showZ zs) := by
        rcases fnd1 with ⟨z, v, e, _⟩ | h
        · have := bo_none (sn := true) (b0 := b0) (b1 := b1) (b2 := b2) (b3 := b3) (t := hd) (p := po) (g := pa) (c := fe)
          rw [e] at this
          exact absurd this.symm c
        · exact h
      obtain ⟨x2, ys, hl, k2, a2⟩ : ∃ x zs, LwQ K H4 li (some zs) ∧ S5 r2 = some (.tup [.str "told", .ref x]) ∧ LokAt CL S5 x hd po fe (zs.mergeSort leS) := by
        rcases fnd2 with ⟨z, v, e, _⟩ | ⟨_, _, _, _, h⟩
        · cases e
        · exact h
      obtain ⟨a', zs', epa', nap, sa1, ha1, ha', g, a0, b0, esh, hsh, ero, hro⟩ := good2 rfl
      rw [epa] at epa'
      cases epa'
      rw [ha] at ha'
      have ez : zs = zs' := dS_inj _ _ (HO.dK.inj (Option.some.inj ha'))
      subst ez
      obtain ⟨a4, zs4, eli, na4, sa4, ha4n, ha4, g4, b4, ero4, hro4⟩ := good4 rfl
      rw [ero] at ero4
      cases ero4
      rw [s3 _ _ hro] at hro4
      have ek : zs.map (·.1) = zs4.map (·.1) := str_inj (HO.lst.inj (Option.some.inj hro4))
      rw [← ek] at ha4
      subst epa eli esh ero
      have ey := lw_some hl ha4
      subst ey
      obtain ⟨t, ehd, nt⟩ : ∃ t, hd = .str t ∧ NameOk t := by cases q0 with | good n => exact ⟨_, rfl, n⟩
      obtain ⟨i, epo, i0, i1⟩ : ∃ i, po = .int i ∧ 0 ≤ i ∧ i ≤ 1 := by cases q1 with | good n m => exact ⟨_, rfl, n, m⟩
      obtain ⟨f, efe, f0, f1⟩ : ∃ f, fe = .int f ∧ 1 ≤ f ∧ f ≤ 1000 := by cases q3 with | good n m => exact ⟨_, rfl, n, m⟩
      subst ehd epo efe
      have okk : ∀ z ∈ zs.map (·.1), NameOk z := fun z hz => by
        obtain ⟨x, hx, rfl⟩ := List.mem_map.mp hz
        exact (g.2.1 x hx).1
      have kl : (zs.map (·.1)).length = zs.length := List.length_map ..
      have k10 := g.2.2.2
      obtain ⟨sa3, ha3⟩ := g3.loc nap sa1 ha
      obtain ⟨sa5, ha5⟩ := g5.loc nap sa3 (sH4 _ _ ha3)
      obtain ⟨sb5, hb5⟩ := g5.loc na4 sa4 ha4
      have hb1 : H1 a4 = none := W3.gr.bk ha4n
      have hsh5 := s15 _ _ hsh
      have hro5 := s15 _ _ hro
      have k1 := s5 _ _ k1
      have a1 := a1.mono s5
      have nab : a4 ≠ a := fun e => by rw [e, ha5] at hb5; cases hb5
      refine ⟨_, rfl, r1, _, 0, .str "told", rfl, rfl, SqT.of (W5.ss _ _ k1), rfl, rfl, _, rfl, ?_⟩
      rw [decide_eq_true rfl]
      refine ⟨_, rfl, r2, _, 0, .str "told", rfl, rfl, SqT.of (W5.ss _ _ k2), rfl, rfl, _, rfl, ?_⟩
      rw [decide_eq_true rfl]
      refine ⟨_, rfl, _, rfl, a, a0, kS2 zs, kS2 zs, rfl, rfl, by rw [← dS_vS]; exact ha5, by rw [← dS_vS]; exact W5.ss _ _ hsh5, _, rfl, ?_⟩
      rw [show sameS (kS2 zs) (kS2 zs) = true from (sameZ_iff g.1 g.1).mpr fun _ => Iff.rfl]
      have shp : SeqAt.shaped (.list ((zs.map (·.1)).map PyData.str)) = true := names_shaped okk
      refine ⟨_, rfl, _, rfl, _, _, .lst (SqL.of hb5) (strs_dp _), .lst (SqL.of (W5.ss _ _ hro5)) (strs_dp _), shp, shp, _, rfl, ?_⟩
      rw [eqv_refl _ (SeqAt.canLay_of_shaped shp)]
      -- both are cleared
      refine ⟨_, rfl, .inr (.inr (.inl ⟨rfl, .inl ⟨_, ha5⟩⟩)), a, _, rfl, rfl, ha5, ?_⟩
      have W6 := W5.put (o := .dK []) ha1 sa5 nap
      have hb6 : upd H5 a (.dK []) a4 = some (.lst ((zs.map (·.1)).map V.str)) := by rw [upd_ne nab]; exact hb5
      generalize upd H5 a (.dK []) = H6 at W6 hb6 ⊢
      refine ⟨_, rfl, .inl ⟨rfl, _, SqL.of hb6⟩, a4, _, rfl, rfl, hb6, ?_⟩
      have W7 := W6.put (o := .lst []) hb1 sb5 na4
      generalize upd H6 a4 (.lst []) = H7 at W7 ⊢
      -- what they tell
      refine ⟨_, rfl, r1, _, 1, .ref x1, rfl, rfl, SqT.of (W7.ss _ _ k1), rfl, _, rfl, _, rfl, _, rfl, a0, _, rfl, W7.ss _ _ hsh5, fun l1 n1 => ?_⟩
      rw [show ((dS zs).map fun kv => kV kv.1) = (zs.map (·.1)).map V.str by unfold dS; rw [List.map_map, List.map_map]; rfl]
      have W8 := W7.more (same_upd (o := .lst ((zs.map (·.1)).map V.str)) n1)
      refine ⟨_, rfl, x1, l1, t, i, f, zs.map (·.1), rfl, nt, ⟨showZ zs, a1.mono W8.ss, keys_showZ zs⟩, upd_same, okk, by omega, fun H9 s9 => ⟨_, rfl, ?_⟩⟩
      have W9 := W8.more s9
      refine ⟨_, rfl, r1, _, 1, .ref x1, rfl, rfl, SqT.of (W9.ss _ _ k1), rfl, _, rfl, x1, a0, _, _, _, zs, rfl, a1.mono W9.ss, W9.ss _ _ hsh5, g, fun H10 s10 => ⟨_, rfl, ?_⟩⟩
      have W10 := W9.more s10
      refine ⟨_, rfl, r2, _, 1, .ref x2, rfl, rfl, SqT.of (W10.ss _ _ k2), rfl, _, rfl, _, rfl, _, rfl, _, rfl, x2, b0, t, i, f, zs.map (·.1), rfl, nt, a2.mono W10.ss, W10.ss _ _ hro5, okk, by omega, fun H11 s11 => ⟨_, rfl, ?_⟩⟩
      have W11 := W10.more s11
      exact ⟨_, rfl, _, rfl, _, rfl, _, rfl, _, rfl, _, rfl, p, a0, b0, S5, t, i, f, zs, rfl, W11.pl, hsh5, hro5, g, nt, i0, i1, f0, f1, q⟩
end
end WW

set_option Elab.async false
set_option linter.all false
set_option maxRecDepth 100000
set_option pp.maxSteps 150
set_option maxHeartbeats 4000000
namespace WW
open PySem PySem.Spec PyProof.Rows L2
abbrev sBadName_init : Stmt := inClass (topS 9) 0
abbrev sBadPost_init : Stmt := inClass (topS 10) 0
abbrev sBadSights_init : Stmt := inClass (topS 11) 0
abbrev sBadWords_init : Stmt := inClass (topS 12) 0
abbrev sBadCost_init : Stmt := inClass (topS 13) 0
theorem all_mk {l : PySem.W.OpenLaw} {w : World} {K : PySem.W.Frag} {h : Heap} {mg : Str → Option Value} {fa : Addr} (X : K.In h) (G : h.Ns mainGlobals mg) (hfa : mg "law" = some (.ref fa))
    {tsm : Tok}
    {tmw : Tok}
    {tmc : Tok}
    {CW : Addr}
    {Cxn fxn cdxn ccxn : Addr} {nmxn qxn : Str} {Nxn : Addr} {bsxn : List Value} {snxn : List Str} {sbxn : List Value} {abxn : Bool} {coxn : Option Bool} {ddxn : Option Addr} {m0xn m1xn m2xn m3xn m5xn : Option Value}
    {ocxn dcxn pmxn ctxn kaxn laxn : Value} {odxn kbxn lbxn : Option Addr} {slxn kcxn lcxn : Array (Option Value)} {vsxn : Array Value} {fixn : Str} {tfxn : Tok}
    {Cxp fxp cdxp ccxp : Addr} {nmxp qxp : Str} {Nxp : Addr} {bsxp : List Value} {snxp : List Str} {sbxp : List Value} {abxp : Bool} {coxp : Option Bool} {ddxp : Option Addr} {m0xp m1xp m2xp m3xp m5xp : Option Value}
    {ocxp dcxp pmxp ctxp kaxp laxp : Value} {odxp kbxp lbxp : Option Addr} {slxp kcxp lcxp : Array (Option Value)} {vsxp : Array Value} {fixp : Str} {tfxp : Tok}
    {Cxg fxg cdxg ccxg : Addr} {nmxg qxg : Str} {Nxg : Addr} {bsxg : List Value} {snxg : List Str} {sbxg : List Value} {abxg : Bool} {coxg : Option Bool} {ddxg : Option Addr} {m0xg m1xg m2xg m3xg m5xg : Option Value}
    {ocxg dcxg pmxg ctxg kaxg laxg : Value} {odxg kbxg lbxg : Option Addr} {slxg kcxg lcxg : Array (Option Value)} {vsxg : Array Value} {fixg : Str} {tfxg : Tok}
    {Cxw fxw cdxw ccxw : Addr} {nmxw qxw : Str} {Nxw : Addr} {bsxw : List Value} {snxw : List Str} {sbxw : List Value} {abxw : Bool} {coxw : Option Bool} {ddxw : Option Addr} {m0xw m1xw m2xw m3xw m5xw : Option Value}
    {ocxw dcxw pmxw ctxw kaxw laxw : Value} {odxw kbxw lbxw : Option Addr} {slxw kcxw lcxw : Array (Option Value)} {vsxw : Array Value} {fixw : Str} {tfxw : Tok}
    {Cxc fxc cdxc ccxc : Addr} {nmxc qxc : Str} {Nxc : Addr} {bsxc : List Value} {snxc : List Str} {sbxc : List Value} {abxc : Bool} {coxc : Option Bool} {ddxc : Option Addr} {m0xc m1xc m2xc m3xc m5xc : Option Value}
    {ocxc dcxc pmxc ctxc kaxc laxc : Value} {odxc kbxc lbxc : Option Addr} {slxc kcxc lcxc : Array (Option Value)} {vsxc : Array Value} {fixc : Str} {tfxc : Tok}
    {CS : Addr}
    {fSi cdSi ccSi : Addr} {ocSi dcSi pmSi ctSi kaSi laSi : Value} {odSi kbSi lbSi : Option Addr} {slSi kcSi lcSi : Array (Option Value)} {vsSi : Array Value} {fiSi : Str} {tfSi : Tok}
    {odio anio : Option Addr} {slio : Array (Option Value)} {ocio kVio dcio pmio cdio ctio : Value} {fio : Addr}
    {odhd anhd : Option Addr} {slhd : Array (Option Value)} {ochd kVhd dchd pmhd cdhd cthd : Value} {fhd : Addr}
    {pnm : Addr} {rnm : List Value}
    {odnm annm : Option Addr} {slnm : Array (Option Value)} {ocnm kVnm dcnm pmnm cdnm ctnm : Value} {fnm : Addr}
    {pps : Addr} {rps : List Value}
    {odps anps : Option Addr} {slps : Array (Option Value)} {ocps kVps dcps pmps cdps ctps : Value} {fps : Addr}
    {pcs : Addr} {rcs : List Value}
    {odcs ancs : Option Addr} {slcs : Array (Option Value)} {occs kVcs dccs pmcs cdcs ctcs : Value} {fcs : Addr}
    {psw : Addr} {rsw : List Value}
    {odsw answ : Option Addr} {slsw : Array (Option Value)} {ocsw kVsw dcsw pmsw cdsw ctsw : Value} {fsw : Addr}
    {odse anse : Option Addr} {slse : Array (Option Value)} {ocse kVse dcse pmse cdse ctse : Value} {fse : Addr}
    {CL : Addr}
    {fLi cdLi ccLi : Addr} {ocLi dcLi pmLi ctLi kaLi laLi : Value} {odLi kbLi lbLi : Option Addr} {slLi kcLi lcLi : Array (Option Value)} {vsLi : Array Value} {fiLi : Str} {tfLi : Tok}
    {plw : Addr} {rlw : List Value}
    {odlw anlw : Option Addr} {sllw : Array (Option Value)} {oclw kVlw dclw pmlw cdlw ctlw : Value} {flw : Addr}
    {odle anle : Option Addr} {slle : Array (Option Value)} {ocle kVle dcle pmle cdle ctle : Value} {fle : Addr}
    {pss : Addr} {rss : List Value}
    {odss anss : Option Addr} {slss : Array (Option Value)} {ocss kVss dcss pmss cdss ctss : Value} {fss : Addr}
    {odii anii : Option Addr} {slii : Array (Option Value)} {ocii kVii dcii pmii cdii ctii : Value} {fii : Addr}
    {odib anib : Option Addr} {slib : Array (Option Value)} {ocib kVib dcib pmib cdib ctib : Value} {fib : Addr}
    {odin anin : Option Addr} {slin : Array (Option Value)} {ocin kVin dcin pmin cdin ctin : Value} {fin : Addr}
    {odir anir : Option Addr} {slir : Array (Option Value)} {ocir kVir dcir pmir cdir ctir : Value} {fir : Addr}
    {odan anan : Option Addr} {slan : Array (Option Value)} {ocan kVan dcan pman cdan ctan : Value} {fan : Addr}
    {odas anas : Option Addr} {slas : Array (Option Value)} {ocas kVas dcas pmas cdas ctas : Value} {fas : Addr}
    {odch anch : Option Addr} {slch : Array (Option Value)} {occh kVch dcch pmch cdch ctch : Value} {fch : Addr}
    {odcc ancc : Option Addr} {slcc : Array (Option Value)} {occc kVcc dccc pmcc cdcc ctcc : Value} {fcc : Addr}
    {odlp anlp : Option Addr} {sllp : Array (Option Value)} {oclp kVlp dclp pmlp cdlp ctlp : Value} {flp : Addr}
    {odld anld : Option Addr} {slld : Array (Option Value)} {ocld kVld dcld pmld cdld ctld : Value} {fld : Addr}
    {odlk anlk : Option Addr} {sllk : Array (Option Value)} {oclk kVlk dclk pmlk cdlk ctlk : Value} {flk : Addr}
    {odln anln : Option Addr} {slln : Array (Option Value)} {ocln kVln dcln pmln cdln ctln : Value} {fln : Addr}
    {odlN anlN : Option Addr} {sllN : Array (Option Value)} {oclN kVlN dclN pmlN cdlN ctlN : Value} {flN : Addr}
    {odla anla : Option Addr} {slla : Array (Option Value)} {ocla kVla dcla pmla cdla ctla : Value} {fla : Addr}
    {odbh anbh : Option Addr} {slbh : Array (Option Value)} {ocbh kVbh dcbh pmbh cdbh ctbh : Value} {fbh : Addr}
    {odbp anbp : Option Addr} {slbp : Array (Option Value)} {ocbp kVbp dcbp pmbp cdbp ctbp : Value} {fbp : Addr}
    {odbc anbc : Option Addr} {slbc : Array (Option Value)} {ocbc kVbc dcbc pmbc cdbc ctbc : Value} {fbc : Addr}
    {odbw anbw : Option Addr} {slbw : Array (Option Value)} {ocbw kVbw dcbw pmbw cdbw ctbw : Value} {fbw : Addr}
    {odbs anbs : Option Addr} {slbs : Array (Option Value)} {ocbs kVbs dcbs pmbs cdbs ctbs : Value} {fbs : Addr}
    {odar anar : Option Addr} {slar : Array (Option Value)} {ocar kVar dcar pmar cdar ctar : Value} {far : Addr}
    {odbu anbu : Option Addr} {slbu : Array (Option Value)} {ocbu kVbu dcbu pmbu cdbu ctbu : Value} {fbu : Addr}
    {odrf anrf : Option Addr} {slrf : Array (Option Value)} {ocrf kVrf dcrf pmrf cdrf ctrf : Value} {frf : Addr}
    {odte ante : Option Addr} {slte : Array (Option Value)} {octe kVte dcte pmte cdte ctte : Value} {fte : Addr}
    {odst anst : Option Addr} {slst : Array (Option Value)} {ocst kVst dcst pmst cdst ctst : Value} {fst : Addr}
    {odtw antw : Option Addr} {sltw : Array (Option Value)} {octw kVtw dctw pmtw cdtw cttw : Value} {ftw : Addr}
    {odlaw anlaw : Option Addr} {sllaw : Array (Option Value)} {oclaw kVlaw dclaw pmlaw cdlaw ctlaw : Value} {flaw : Addr}
    (zabs : PySem.W.nsIn K mainGlobals "abs" = some none)
    (zint : PySem.W.nsIn K mainGlobals "int" = some none)
    (zlen : PySem.W.nsIn K mainGlobals "len" = some none)
    (zmax : PySem.W.nsIn K mainGlobals "max" = some none)
    (zrange : PySem.W.nsIn K mainGlobals "range" = some none)
    (ztuple : PySem.W.nsIn K mainGlobals "tuple" = some none)
    (zlist : PySem.W.nsIn K mainGlobals "list" = some none)
    (zstr : PySem.W.nsIn K mainGlobals "str" = some none)
    (zbool : PySem.W.nsIn K mainGlobals "bool" = some none)
    (zisinstance : PySem.W.nsIn K mainGlobals "isinstance" = some none)
    (zall : PySem.W.nsIn K mainGlobals "all" = some none)
    (zsorted : PySem.W.nsIn K mainGlobals "sorted" = some none)
    (zenumerate : PySem.W.nsIn K mainGlobals "enumerate" = some none)
    (zset : PySem.W.nsIn K mainGlobals "set" = some none)
    (zsuper : PySem.W.nsIn K mainGlobals "super" = some none)
    (zdict : PySem.W.nsIn K mainGlobals "dict" = some none)
    (vsm : PySem.W.nsIn K mainGlobals "SMALL" = some (some (.str smallS tsm)))
    (vmw : PySem.W.nsIn K mainGlobals "MOST_WORDS" = some (some (.int 10 tmw)))
    (vmc : PySem.W.nsIn K mainGlobals "MOST_COST" = some (some (.int 1000 tmc)))
    (ntop : (l.prog.main.scope.names.lookup ("super" : Str)).isSome = false)
    (opq : PySem.W.nsIn K cStatics "thirdparty.any" = some none)
    (jb : PySem.W.specialIn K (.builtin "object.__class__") "__get__" = some (some (.builtin "getset_descriptor.__get__")))
    (jc : PySem.W.takesIn K (.builtin "object.__class__") = some true)
    (aCW : PySem.W.nsIn K mainGlobals "WorksError" = some (some (.ref CW)))
    (aCxn : PySem.W.nsIn K mainGlobals "BadName" = some (some (.ref Cxn)))
    (xLxn : K.lookup Cxn = some (excClassObj nmxn qxn Cxn Nxn bsxn [.ref CW, .type "ValueError", .type "Exception", .type "BaseException", .type "object"] true snxn sbxn abxn coxn ddxn m0xn m1xn m2xn m3xn m5xn "ValueError.__new__"))
    (saxn : PySem.W.findIn K (.ref Cxn) "__setattr__" = some (some (.builtin "object.__setattr__")))
    (eCxn : PySem.W.subIn K (.ref Cxn) (.type "BaseException") = some true)
    (tCxn : PySem.W.typeIn K (.ref Cxn) = some (.type "type"))
    (kCxn : PySem.W.keepIn K (.ref Cxn) = true)
    (iCxn : PySem.W.findIn K (.ref Cxn) "__init__" = some (some (.ref fxn)))
    (tIxn : PySem.W.typeIn K (.ref fxn) = some (.type "function"))
    (lkxn : K.lookup fxn = some ⟨ocxn, odxn, .func (PySem.W.fnX "__init__" "BadName.__init__" (defArgs sBadName_init) (defBody sBadName_init) (defScope sBadName_init) [("__class__", ccxn)] .none .none dcxn pmxn none (.ref cdxn) ctxn), slxn⟩)
    (hcxn : PySem.W.codeIn K (.ref cdxn) "BadName.__init__" = true)
    (coxnx : K.lookup cdxn = some ⟨kaxn, kbxn, .fields vsxn, kcxn⟩)
    (v2xn : vsxn[2]? = some (.str fixn tfxn))
    (flxn : ((l.prog.main.file : Str) == fixn) = true)
    (cexn : K.lookup ccxn = some ⟨laxn, lbxn, .cell (some (.ref Cxn)), lcxn⟩)
    (mrxn : PySem.W.mroIn K Cxn (.ref Cxn) = some true)
    (suxn : PySem.W.ks_superIn K Cxn Cxn "__init__" = some (some (.builtin "ValueError.__init__")))
    (bvxn : PySem.W.subIn K (.ref Cxn) (.type "ValueError") = some true)
    (nfxn : PySem.W.findIn K (.ref Cxn) "value" = some none)
    (gaxn : PySem.W.findIn K (.ref Cxn) "__getattribute__" = some (some (.builtin "BaseException.__getattribute__")))
    (ggxn : PySem.W.findIn K (.ref Cxn) "__getattr__" = some none)
    (hdxn : PySem.W.hasDictIn K Cxn = true)
    (clxn : PySem.W.findIn K (.ref Cxn) "__class__" = some (some (.builtin "object.__class__")))
    (moxn : PySem.W.mroIn K Cxn (.type "object") = some true)
    (kwxn : PySem.W.kitOne K (.ref Cxn) (.ref CW) = some true)
    (aCxp : PySem.W.nsIn K mainGlobals "BadPost" = some (some (.ref Cxp)))
    (xLxp : K.lookup Cxp = some (excClassObj nmxp qxp Cxp Nxp bsxp [.ref CW, .type "ValueError", .type "Exception", .type "BaseException", .type "object"] true snxp sbxp abxp coxp ddxp m0xp m1xp m2xp m3xp m5xp "ValueError.__new__"))
    (saxp : PySem.W.findIn K (.ref Cxp) "__setattr__" = some (some (.builtin "object.__setattr__")))
    (eCxp : PySem.W.subIn K (.ref Cxp) (.type "BaseException") = some true)
    (tCxp : PySem.W.typeIn K (.ref Cxp) = some (.type "type"))
    (kCxp : PySem.W.keepIn K (.ref Cxp) = true)
    (iCxp : PySem.W.findIn K (.ref Cxp) "__init__" = some (some (.ref fxp)))
    (tIxp : PySem.W.typeIn K (.ref fxp) = some (.type "function"))
    (lkxp : K.lookup fxp = some ⟨ocxp, odxp, .func (PySem.W.fnX "__init__" "BadPost.__init__" (defArgs sBadPost_init) (defBody sBadPost_init) (defScope sBadPost_init) [("__class__", ccxp)] .none .none dcxp pmxp none (.ref cdxp) ctxp), slxp⟩)
    (hcxp : PySem.W.codeIn K (.ref cdxp) "BadPost.__init__" = true)
    (coxpx : K.lookup cdxp = some ⟨kaxp, kbxp, .fields vsxp, kcxp⟩)
    (v2xp : vsxp[2]? = some (.str fixp tfxp))
    (flxp : ((l.prog.main.file : Str) == fixp) = true)
    (cexp : K.lookup ccxp = some ⟨laxp, lbxp, .cell (some (.ref Cxp)), lcxp⟩)
    (mrxp : PySem.W.mroIn K Cxp (.ref Cxp) = some true)
    (suxp : PySem.W.ks_superIn K Cxp Cxp "__init__" = some (some (.builtin "ValueError.__init__")))
    (bvxp : PySem.W.subIn K (.ref Cxp) (.type "ValueError") = some true)
    (nfxp : PySem.W.findIn K (.ref Cxp) "value" = some none)
    (gaxp : PySem.W.findIn K (.ref Cxp) "__getattribute__" = some (some (.builtin "BaseException.__getattribute__")))
    (ggxp : PySem.W.findIn K (.ref Cxp) "__getattr__" = some none)
    (hdxp : PySem.W.hasDictIn K Cxp = true)
    (clxp : PySem.W.findIn K (.ref Cxp) "__class__" = some (some (.builtin "object.__class__")))
    (moxp : PySem.W.mroIn K Cxp (.type "object") = some true)
    (kwxp : PySem.W.kitOne K (.ref Cxp) (.ref CW) = some true)
    (aCxg : PySem.W.nsIn K mainGlobals "BadSights" = some (some (.ref Cxg)))
    (xLxg : K.lookup Cxg = some (excClassObj nmxg qxg Cxg Nxg bsxg [.ref CW, .type "ValueError", .type "Exception", .type "BaseException", .type "object"] true snxg sbxg abxg coxg ddxg m0xg m1xg m2xg m3xg m5xg "ValueError.__new__"))
    (saxg : PySem.W.findIn K (.ref Cxg) "__setattr__" = some (some (.builtin "object.__setattr__")))
    (eCxg : PySem.W.subIn K (.ref Cxg) (.type "BaseException") = some true)
    (tCxg : PySem.W.typeIn K (.ref Cxg) = some (.type "type"))
    (kCxg : PySem.W.keepIn K (.ref Cxg) = true)
    (iCxg : PySem.W.findIn K (.ref Cxg) "__init__" = some (some (.ref fxg)))
    (tIxg : PySem.W.typeIn K (.ref fxg) = some (.type "function"))
    (lkxg : K.lookup fxg = some ⟨ocxg, odxg, .func (PySem.W.fnX "__init__" "BadSights.__init__" (defArgs sBadSights_init) (defBody sBadSights_init) (defScope sBadSights_init) [("__class__", ccxg)] .none .none dcxg pmxg none (.ref cdxg) ctxg), slxg⟩)
    (hcxg : PySem.W.codeIn K (.ref cdxg) "BadSights.__init__" = true)
    (coxgx : K.lookup cdxg = some ⟨kaxg, kbxg, .fields vsxg, kcxg⟩)
    (v2xg : vsxg[2]? = some (.str fixg tfxg))
    (flxg : ((l.prog.main.file : Str) == fixg) = true)
    (cexg : K.lookup ccxg = some ⟨laxg, lbxg, .cell (some (.ref Cxg)), lcxg⟩)
    (mrxg : PySem.W.mroIn K Cxg (.ref Cxg) = some true)
    (suxg : PySem.W.ks_superIn K Cxg Cxg "__init__" = some (some (.builtin "ValueError.__init__")))
    (bvxg : PySem.W.subIn K (.ref Cxg) (.type "ValueError") = some true)
    (nfxg : PySem.W.findIn K (.ref Cxg) "value" = some none)
    (gaxg : PySem.W.findIn K (.ref Cxg) "__getattribute__" = some (some (.builtin "BaseException.__getattribute__")))
    (ggxg : PySem.W.findIn K (.ref Cxg) "__getattr__" = some none)
    (hdxg : PySem.W.hasDictIn K Cxg = true)
    (clxg : PySem.W.findIn K (.ref Cxg) "__class__" = some (some (.builtin "object.__class__")))
    (moxg : PySem.W.mroIn K Cxg (.type "object") = some true)
    (kwxg : PySem.W.kitOne K (.ref Cxg) (.ref CW) = some true)
    (aCxw : PySem.W.nsIn K mainGlobals "BadWords" = some (some (.ref Cxw)))
    (xLxw : K.lookup Cxw = some (excClassObj nmxw qxw Cxw Nxw bsxw [.ref CW, .type "ValueError", .type "Exception", .type "BaseException", .type "object"] true snxw sbxw abxw coxw ddxw m0xw m1xw m2xw m3xw m5xw "ValueError.__new__"))
    (saxw : PySem.W.findIn K (.ref Cxw) "__setattr__" = some (some (.builtin "object.__setattr__")))
    (eCxw : PySem.W.subIn K (.ref Cxw) (.type "BaseException") = some true)
    (tCxw : PySem.W.typeIn K (.ref Cxw) = some (.type "type"))
    (kCxw : PySem.W.keepIn K (.ref Cxw) = true)
    (iCxw : PySem.W.findIn K (.ref Cxw) "__init__" = some (some (.ref fxw)))
    (tIxw : PySem.W.typeIn K (.ref fxw) = some (.type "function"))
    (lkxw : K.lookup fxw = some ⟨ocxw, odxw, .func (PySem.W.fnX "__init__" "BadWords.__init__" (defArgs sBadWords_init) (defBody sBadWords_init) (defScope sBadWords_init) [("__class__", ccxw)] .none .none dcxw pmxw none (.ref cdxw) ctxw), slxw⟩)
    (hcxw : PySem.W.codeIn K (.ref cdxw) "BadWords.__init__" = true)
    (coxwx : K.lookup cdxw = some ⟨kaxw, kbxw, .fields vsxw, kcxw⟩)
    (v2xw : vsxw[2]? = some (.str fixw tfxw))
    (flxw : ((l.prog.main.file : Str) == fixw) = true)
    (cexw : K.lookup ccxw = some ⟨laxw, lbxw, .cell (some (.ref Cxw)), lcxw⟩)
    (mrxw : PySem.W.mroIn K Cxw (.ref Cxw) = some true)
    (suxw : PySem.W.ks_superIn K Cxw Cxw "__init__" = some (some (.builtin "ValueError.__init__")))
    (bvxw : PySem.W.subIn K (.ref Cxw) (.type "ValueError") = some true)
    (nfxw : PySem.W.findIn K (.ref Cxw) "value" = some none)
    (gaxw : PySem.W.findIn K (.ref Cxw) "__getattribute__" = some (some (.builtin "BaseException.__getattribute__")))
    (ggxw : PySem.W.findIn K (.ref Cxw) "__getattr__" = some none)
    (hdxw : PySem.W.hasDictIn K Cxw = true)
    (clxw : PySem.W.findIn K (.ref Cxw) "__class__" = some (some (.builtin "object.__class__")))
    (moxw : PySem.W.mroIn K Cxw (.type "object") = some true)
    (kwxw : PySem.W.kitOne K (.ref Cxw) (.ref CW) = some true)
    (aCxc : PySem.W.nsIn K mainGlobals "BadCost" = some (some (.ref Cxc)))
    (xLxc : K.lookup Cxc = some (excClassObj nmxc qxc Cxc Nxc bsxc [.ref CW, .type "ValueError", .type "Exception", .type "BaseException", .type "object"] true snxc sbxc abxc coxc ddxc m0xc m1xc m2xc m3xc m5xc "ValueError.__new__"))
    (saxc : PySem.W.findIn K (.ref Cxc) "__setattr__" = some (some (.builtin "object.__setattr__")))
    (eCxc : PySem.W.subIn K (.ref Cxc) (.type "BaseException") = some true)
    (tCxc : PySem.W.typeIn K (.ref Cxc) = some (.type "type"))
    (kCxc : PySem.W.keepIn K (.ref Cxc) = true)
    (iCxc : PySem.W.findIn K (.ref Cxc) "__init__" = some (some (.ref fxc)))
    (tIxc : PySem.W.typeIn K (.ref fxc) = some (.type "function"))
    (lkxc : K.lookup fxc = some ⟨ocxc, odxc, .func (PySem.W.fnX "__init__" "BadCost.__init__" (defArgs sBadCost_init) (defBody sBadCost_init) (defScope sBadCost_init) [("__class__", ccxc)] .none .none dcxc pmxc none (.ref cdxc) ctxc), slxc⟩)
    (hcxc : PySem.W.codeIn K (.ref cdxc) "BadCost.__init__" = true)
    (coxcx : K.lookup cdxc = some ⟨kaxc, kbxc, .fields vsxc, kcxc⟩)
    (v2xc : vsxc[2]? = some (.str fixc tfxc))
    (flxc : ((l.prog.main.file : Str) == fixc) = true)
    (cexc : K.lookup ccxc = some ⟨laxc, lbxc, .cell (some (.ref Cxc)), lcxc⟩)
    (mrxc : PySem.W.mroIn K Cxc (.ref Cxc) = some true)
    (suxc : PySem.W.ks_superIn K Cxc Cxc "__init__" = some (some (.builtin "ValueError.__init__")))
    (bvxc : PySem.W.subIn K (.ref Cxc) (.type "ValueError") = some true)
    (nfxc : PySem.W.findIn K (.ref Cxc) "value" = some none)
    (gaxc : PySem.W.findIn K (.ref Cxc) "__getattribute__" = some (some (.builtin "BaseException.__getattribute__")))
    (ggxc : PySem.W.findIn K (.ref Cxc) "__getattr__" = some none)
    (hdxc : PySem.W.hasDictIn K Cxc = true)
    (clxc : PySem.W.findIn K (.ref Cxc) "__class__" = some (some (.builtin "object.__class__")))
    (moxc : PySem.W.mroIn K Cxc (.type "object") = some true)
    (kwxc : PySem.W.kitOne K (.ref Cxc) (.ref CW) = some true)
    (uxnxn : PySem.W.subIn K (.ref Cxn) (.ref Cxn) = some true)
    (uxpxn : PySem.W.subIn K (.ref Cxp) (.ref Cxn) = some false)
    (uxpxp : PySem.W.subIn K (.ref Cxp) (.ref Cxp) = some true)
    (uxgxn : PySem.W.subIn K (.ref Cxg) (.ref Cxn) = some false)
    (uxgxp : PySem.W.subIn K (.ref Cxg) (.ref Cxp) = some false)
    (uxgxg : PySem.W.subIn K (.ref Cxg) (.ref Cxg) = some true)
    (uxwxn : PySem.W.subIn K (.ref Cxw) (.ref Cxn) = some false)
    (uxwxp : PySem.W.subIn K (.ref Cxw) (.ref Cxp) = some false)
    (uxwxg : PySem.W.subIn K (.ref Cxw) (.ref Cxg) = some false)
    (uxwxw : PySem.W.subIn K (.ref Cxw) (.ref Cxw) = some true)
    (uxcxn : PySem.W.subIn K (.ref Cxc) (.ref Cxn) = some false)
    (uxcxp : PySem.W.subIn K (.ref Cxc) (.ref Cxp) = some false)
    (uxcxg : PySem.W.subIn K (.ref Cxc) (.ref Cxg) = some false)
    (uxcxw : PySem.W.subIn K (.ref Cxc) (.ref Cxw) = some false)
    (uxcxc : PySem.W.subIn K (.ref Cxc) (.ref Cxc) = some true)
    (aCS : PySem.W.nsIn K mainGlobals "Sensor" = some (some (.ref CS)))
    (pgS : PySem.W.plainGet K CS Str.empty = true)
    (hdS : PySem.W.hasDictIn K CS = true)
    (poS : PySem.W.plainOver K CS = true)
    (saS : PySem.W.findIn K (.ref CS) "__setattr__" = some (some (.builtin "object.__setattr__")))
    (nST : PySem.W.findIn K (.ref CS) "title" = some none)
    (nSP : PySem.W.findIn K (.ref CS) "place" = some none)
    (nSF : PySem.W.findIn K (.ref CS) "fee" = some none)
    (nSS : PySem.W.findIn K (.ref CS) "shows" = some none)
    (nSO : PySem.W.findIn K (.ref CS) "stops" = some none)
    (jaS : PySem.W.findIn K (.ref CS) "__class__" = some (some (.builtin "object.__class__")))
    (jbS : PySem.W.specialIn K (.builtin "object.__class__") "__get__" = some (some (.builtin "getset_descriptor.__get__")))
    (jcS : PySem.W.takesIn K (.builtin "object.__class__") = some true)
    (jdS : PySem.W.mroIn K CS (.type "object") = some true)
    (mkS : PySem.W.makesIn K CS = true)
    (aiS : PySem.W.findIn K (.ref CS) "__init__" = some (some (.ref fSi)))
    (iiS : PySem.W.isFn K (.ref fSi) = true)
    (kcS : PySem.W.keepIn K (.ref CS) = true)
    (lkSi : K.lookup fSi = some ⟨ocSi, odSi, .func (PySem.W.fnX "__init__" "Sensor.__init__" (defArgs sSensor_init) (defBody sSensor_init) (defScope sSensor_init) [("__class__", ccSi)] .none .none dcSi pmSi none (.ref cdSi) ctSi), slSi⟩)
    (hcSi : PySem.W.codeIn K (.ref cdSi) "Sensor.__init__" = true)
    (coSix : K.lookup cdSi = some ⟨kaSi, kbSi, .fields vsSi, kcSi⟩)
    (v2Si : vsSi[2]? = some (.str fiSi tfSi))
    (flSi : ((l.prog.main.file : Str) == fiSi) = true)
    (ceSi : K.lookup ccSi = some ⟨laSi, lbSi, .cell (some (.ref CS)), lcSi⟩)
    (mrSi : PySem.W.mroIn K CS (.ref CS) = some true)
    (suSi : PySem.W.ks_superIn K CS CS "__init__" = some (some (.ref fio)))
    (hmS : PySem.W.findIn K (.ref CS) "head" = some (some (.ref fhd)))
    (lio : K.lookup fio = some ⟨ocio, odio, .func (PySem.W.fnOf "__init__" "Instrument.__init__" (defArgs sInstrument_init) (defBody sInstrument_init) (defScope sInstrument_init) .none kVio dcio pmio anio cdio ctio), slio⟩)
    (cio : PySem.W.codeIn K cdio "Instrument.__init__" = true)
    (kio : PySem.W.keepIn K (.ref fio) = true)
    (fnio : PySem.W.fnIn K fio = true)
    (tyio : PySem.W.typeIn K (.ref fio) = some (.type "function"))
    (lhd : K.lookup fhd = some ⟨ochd, odhd, .func (PySem.W.fnOf "head" "Instrument.head" (defArgs sInstrument_head) (defBody sInstrument_head) (defScope sInstrument_head) .none kVhd dchd pmhd anhd cdhd cthd), slhd⟩)
    (chd : PySem.W.codeIn K cdhd "Instrument.head" = true)
    (khd : PySem.W.keepIn K (.ref fhd) = true)
    (hf : PySem.W.isFn K (.ref fhd) = true)
    (panm : PySem.W.findIn K (.ref CS) "name" = some (some (.ref pnm)))
    (pbnm : PySem.W.specialIn K (.ref pnm) "__get__" = some (some (.builtin "property.__get__")))
    (pcnm : PySem.W.takesIn K (.ref pnm) = some true)
    (pdnm : PySem.W.recIn K pnm "property" = some (.ref fnm :: rnm))
    (lnm : K.lookup fnm = some ⟨ocnm, odnm, .func (PySem.W.fnOf "name" "Instrument.name" (defArgs sInstrument_name) (defBody sInstrument_name) (defScope sInstrument_name) .none kVnm dcnm pmnm annm cdnm ctnm), slnm⟩)
    (cnm : PySem.W.codeIn K cdnm "Instrument.name" = true)
    (knm : PySem.W.keepIn K (.ref fnm) = true)
    (paps : PySem.W.findIn K (.ref CS) "post" = some (some (.ref pps)))
    (pbps : PySem.W.specialIn K (.ref pps) "__get__" = some (some (.builtin "property.__get__")))
    (pcps : PySem.W.takesIn K (.ref pps) = some true)
    (pdps : PySem.W.recIn K pps "property" = some (.ref fps :: rps))
    (lps : K.lookup fps = some ⟨ocps, odps, .func (PySem.W.fnOf "post" "Instrument.post" (defArgs sInstrument_post) (defBody sInstrument_post) (defScope sInstrument_post) .none kVps dcps pmps anps cdps ctps), slps⟩)
    (cps : PySem.W.codeIn K cdps "Instrument.post" = true)
    (kps : PySem.W.keepIn K (.ref fps) = true)
    (pacs : PySem.W.findIn K (.ref CS) "cost" = some (some (.ref pcs)))
    (pbcs : PySem.W.specialIn K (.ref pcs) "__get__" = some (some (.builtin "property.__get__")))
    (pccs : PySem.W.takesIn K (.ref pcs) = some true)
    (pdcs : PySem.W.recIn K pcs "property" = some (.ref fcs :: rcs))
    (lcs : K.lookup fcs = some ⟨occs, odcs, .func (PySem.W.fnOf "cost" "Instrument.cost" (defArgs sInstrument_cost) (defBody sInstrument_cost) (defScope sInstrument_cost) .none kVcs dccs pmcs ancs cdcs ctcs), slcs⟩)
    (ccs : PySem.W.codeIn K cdcs "Instrument.cost" = true)
    (kcs : PySem.W.keepIn K (.ref fcs) = true)
    (pasw : PySem.W.findIn K (.ref CS) "words" = some (some (.ref psw)))
    (pbsw : PySem.W.specialIn K (.ref psw) "__get__" = some (some (.builtin "property.__get__")))
    (pcsw : PySem.W.takesIn K (.ref psw) = some true)
    (pdsw : PySem.W.recIn K psw "property" = some (.ref fsw :: rsw))
    (lsw : K.lookup fsw = some ⟨ocsw, odsw, .func (PySem.W.fnOf "words" "Sensor.words" (defArgs sSensor_words) (defBody sSensor_words) (defScope sSensor_words) .none kVsw dcsw pmsw answ cdsw ctsw), slsw⟩)
    (csw : PySem.W.codeIn K cdsw "Sensor.words" = true)
    (ksw : PySem.W.keepIn K (.ref fsw) = true)
    (eaS : PySem.W.findIn K (.ref CS) "__eq__" = some (some (.ref fse)))
    (ebS : PySem.W.findIn K (.ref CS) "__ne__" = some (some (.builtin "object.__ne__")))
    (ecS : PySem.W.isFn K (.ref fse) = true)
    (edS : PySem.W.subIn K (.ref CS) (.type "object") = some true)
    (lse : K.lookup fse = some ⟨ocse, odse, .func (PySem.W.fnOf "__eq__" "Sensor.__eq__" (defArgs sSensor_eq) (defBody sSensor_eq) (defScope sSensor_eq) .none kVse dcse pmse anse cdse ctse), slse⟩)
    (cse : PySem.W.codeIn K cdse "Sensor.__eq__" = true)
    (kse : PySem.W.keepIn K (.ref fse) = true)
    (aCL : PySem.W.nsIn K mainGlobals "Lock" = some (some (.ref CL)))
    (pgL : PySem.W.plainGet K CL Str.empty = true)
    (hdL : PySem.W.hasDictIn K CL = true)
    (poL : PySem.W.plainOver K CL = true)
    (saL : PySem.W.findIn K (.ref CL) "__setattr__" = some (some (.builtin "object.__setattr__")))
    (nLT : PySem.W.findIn K (.ref CL) "title" = some none)
    (nLP : PySem.W.findIn K (.ref CL) "place" = some none)
    (nLF : PySem.W.findIn K (.ref CL) "fee" = some none)
    (nLS : PySem.W.findIn K (.ref CL) "shows" = some none)
    (nLO : PySem.W.findIn K (.ref CL) "stops" = some none)
    (jaL : PySem.W.findIn K (.ref CL) "__class__" = some (some (.builtin "object.__class__")))
    (jbL : PySem.W.specialIn K (.builtin "object.__class__") "__get__" = some (some (.builtin "getset_descriptor.__get__")))
    (jcL : PySem.W.takesIn K (.builtin "object.__class__") = some true)
    (jdL : PySem.W.mroIn K CL (.type "object") = some true)
    (mkL : PySem.W.makesIn K CL = true)
    (aiL : PySem.W.findIn K (.ref CL) "__init__" = some (some (.ref fLi)))
    (iiL : PySem.W.isFn K (.ref fLi) = true)
    (kcL : PySem.W.keepIn K (.ref CL) = true)
    (lkLi : K.lookup fLi = some ⟨ocLi, odLi, .func (PySem.W.fnX "__init__" "Lock.__init__" (defArgs sLock_init) (defBody sLock_init) (defScope sLock_init) [("__class__", ccLi)] .none .none dcLi pmLi none (.ref cdLi) ctLi), slLi⟩)
    (hcLi : PySem.W.codeIn K (.ref cdLi) "Lock.__init__" = true)
    (coLix : K.lookup cdLi = some ⟨kaLi, kbLi, .fields vsLi, kcLi⟩)
    (v2Li : vsLi[2]? = some (.str fiLi tfLi))
    (flLi : ((l.prog.main.file : Str) == fiLi) = true)
    (ceLi : K.lookup ccLi = some ⟨laLi, lbLi, .cell (some (.ref CL)), lcLi⟩)
    (mrLi : PySem.W.mroIn K CL (.ref CL) = some true)
    (suLi : PySem.W.ks_superIn K CL CL "__init__" = some (some (.ref fio)))
    (hmL : PySem.W.findIn K (.ref CL) "head" = some (some (.ref fhd)))
    (paLnm : PySem.W.findIn K (.ref CL) "name" = some (some (.ref pnm)))
    (paLps : PySem.W.findIn K (.ref CL) "post" = some (some (.ref pps)))
    (paLcs : PySem.W.findIn K (.ref CL) "cost" = some (some (.ref pcs)))
    (palw : PySem.W.findIn K (.ref CL) "words" = some (some (.ref plw)))
    (pblw : PySem.W.specialIn K (.ref plw) "__get__" = some (some (.builtin "property.__get__")))
    (pclw : PySem.W.takesIn K (.ref plw) = some true)
    (pdlw : PySem.W.recIn K plw "property" = some (.ref flw :: rlw))
    (llw : K.lookup flw = some ⟨oclw, odlw, .func (PySem.W.fnOf "words" "Lock.words" (defArgs sLock_words) (defBody sLock_words) (defScope sLock_words) .none kVlw dclw pmlw anlw cdlw ctlw), sllw⟩)
    (clw : PySem.W.codeIn K cdlw "Lock.words" = true)
    (klw : PySem.W.keepIn K (.ref flw) = true)
    (eaL : PySem.W.findIn K (.ref CL) "__eq__" = some (some (.ref fle)))
    (ebL : PySem.W.findIn K (.ref CL) "__ne__" = some (some (.builtin "object.__ne__")))
    (ecL : PySem.W.isFn K (.ref fle) = true)
    (edL : PySem.W.subIn K (.ref CL) (.type "object") = some true)
    (lle : K.lookup fle = some ⟨ocle, odle, .func (PySem.W.fnOf "__eq__" "Lock.__eq__" (defArgs sLock_eq) (defBody sLock_eq) (defScope sLock_eq) .none kVle dcle pmle anle cdle ctle), slle⟩)
    (cle : PySem.W.codeIn K cdle "Lock.__eq__" = true)
    (kle : PySem.W.keepIn K (.ref fle) = true)
    (pass : PySem.W.findIn K (.ref CS) "sights" = some (some (.ref pss)))
    (pbss : PySem.W.specialIn K (.ref pss) "__get__" = some (some (.builtin "property.__get__")))
    (pcss : PySem.W.takesIn K (.ref pss) = some true)
    (pdss : PySem.W.recIn K pss "property" = some (.ref fss :: rss))
    (lss : K.lookup fss = some ⟨ocss, odss, .func (PySem.W.fnOf "sights" "Sensor.sights" (defArgs sSensor_sights) (defBody sSensor_sights) (defScope sSensor_sights) .none kVss dcss pmss anss cdss ctss), slss⟩)
    (css : PySem.W.codeIn K cdss "Sensor.sights" = true)
    (kss : PySem.W.keepIn K (.ref fss) = true)
    (nf1 : PySem.W.notFirst K CS (.ref CL) = true)
    (nf2 : PySem.W.notFirst K CL (.ref CS) = true)
    (kt1 : PySem.W.kitOne K (.ref CL) (.ref CS) = some false)
    (kt2 : PySem.W.kitOne K (.ref CS) (.ref CL) = some false)
    (aii : PySem.W.nsIn K mainGlobals "is_integer" = some (some (.ref fii)))
    (lii : K.lookup fii = some ⟨ocii, odii, .func (PySem.W.fnOf "is_integer" "is_integer" (defArgs sIs_integer) (defBody sIs_integer) (defScope sIs_integer) .none kVii dcii pmii anii cdii ctii), slii⟩)
    (cii : PySem.W.codeIn K cdii "is_integer" = true)
    (kii : PySem.W.keepIn K (.ref fii) = true)
    (aib : PySem.W.nsIn K mainGlobals "is_between" = some (some (.ref fib)))
    (lib : K.lookup fib = some ⟨ocib, odib, .func (PySem.W.fnOf "is_between" "is_between" (defArgs sIs_between) (defBody sIs_between) (defScope sIs_between) .none kVib dcib pmib anib cdib ctib), slib⟩)
    (cib : PySem.W.codeIn K cdib "is_between" = true)
    (kib : PySem.W.keepIn K (.ref fib) = true)
    (ain : PySem.W.nsIn K mainGlobals "is_name" = some (some (.ref fin)))
    (lin : K.lookup fin = some ⟨ocin, odin, .func (PySem.W.fnOf "is_name" "is_name" (defArgs sIs_name) (defBody sIs_name) (defScope sIs_name) .none kVin dcin pmin anin cdin ctin), slin⟩)
    (cin : PySem.W.codeIn K cdin "is_name" = true)
    (kin : PySem.W.keepIn K (.ref fin) = true)
    (air : PySem.W.nsIn K mainGlobals "is_row" = some (some (.ref fir)))
    (lir : K.lookup fir = some ⟨ocir, odir, .func (PySem.W.fnOf "is_row" "is_row" (defArgs sIs_row) (defBody sIs_row) (defScope sIs_row) .none kVir dcir pmir anir cdir ctir), slir⟩)
    (cir : PySem.W.codeIn K cdir "is_row" = true)
    (kir : PySem.W.keepIn K (.ref fir) = true)
    (aan : PySem.W.nsIn K mainGlobals "are_names" = some (some (.ref fan)))
    (lan : K.lookup fan = some ⟨ocan, odan, .func (PySem.W.fnOf "are_names" "are_names" (defArgs sAre_names) (defBody sAre_names) (defScope sAre_names) .none kVan dcan pman anan cdan ctan), slan⟩)
    (can : PySem.W.codeIn K cdan "are_names" = true)
    (kan : PySem.W.keepIn K (.ref fan) = true)
    (aas : PySem.W.nsIn K mainGlobals "are_sights" = some (some (.ref fas)))
    (las : K.lookup fas = some ⟨ocas, odas, .func (PySem.W.fnOf "are_sights" "are_sights" (defArgs sAre_sights) (defBody sAre_sights) (defScope sAre_sights) .none kVas dcas pmas anas cdas ctas), slas⟩)
    (cas : PySem.W.codeIn K cdas "are_sights" = true)
    (kas : PySem.W.keepIn K (.ref fas) = true)
    (ach : PySem.W.nsIn K mainGlobals "check_head" = some (some (.ref fch)))
    (lch : K.lookup fch = some ⟨occh, odch, .func (PySem.W.fnOf "check_head" "check_head" (defArgs sCheck_head) (defBody sCheck_head) (defScope sCheck_head) .none kVch dcch pmch anch cdch ctch), slch⟩)
    (cch : PySem.W.codeIn K cdch "check_head" = true)
    (kch : PySem.W.keepIn K (.ref fch) = true)
    (acc : PySem.W.nsIn K mainGlobals "check_cost" = some (some (.ref fcc)))
    (lcc : K.lookup fcc = some ⟨occc, odcc, .func (PySem.W.fnOf "check_cost" "check_cost" (defArgs sCheck_cost) (defBody sCheck_cost) (defScope sCheck_cost) .none kVcc dccc pmcc ancc cdcc ctcc), slcc⟩)
    (ccc : PySem.W.codeIn K cdcc "check_cost" = true)
    (kcc : PySem.W.keepIn K (.ref fcc) = true)
    (alp : PySem.W.nsIn K mainGlobals "_law_pool" = some (some (.ref flp)))
    (llp : K.lookup flp = some ⟨oclp, odlp, .func (PySem.W.fnOf "_law_pool" "_law_pool" (defArgs sLpool) (defBody sLpool) (defScope sLpool) .none kVlp dclp pmlp anlp cdlp ctlp), sllp⟩)
    (clp : PySem.W.codeIn K cdlp "_law_pool" = true)
    (klp : PySem.W.keepIn K (.ref flp) = true)
    (ald : PySem.W.nsIn K mainGlobals "_law_draw" = some (some (.ref fld)))
    (lld : K.lookup fld = some ⟨ocld, odld, .func (PySem.W.fnOf "_law_draw" "_law_draw" (defArgs sLdraw) (defBody sLdraw) (defScope sLdraw) .none kVld dcld pmld anld cdld ctld), slld⟩)
    (cld : PySem.W.codeIn K cdld "_law_draw" = true)
    (kld : PySem.W.keepIn K (.ref fld) = true)
    (alk : PySem.W.nsIn K mainGlobals "_law_pick" = some (some (.ref flk)))
    (llk : K.lookup flk = some ⟨oclk, odlk, .func (PySem.W.fnOf "_law_pick" "_law_pick" (defArgs sLpick) (defBody sLpick) (defScope sLpick) .none kVlk dclk pmlk anlk cdlk ctlk), sllk⟩)
    (clk : PySem.W.codeIn K cdlk "_law_pick" = true)
    (klk : PySem.W.keepIn K (.ref flk) = true)
    (aln : PySem.W.nsIn K mainGlobals "_law_name" = some (some (.ref fln)))
    (lln : K.lookup fln = some ⟨ocln, odln, .func (PySem.W.fnOf "_law_name" "_law_name" (defArgs sLname) (defBody sLname) (defScope sLname) .none kVln dcln pmln anln cdln ctln), slln⟩)
    (cln : PySem.W.codeIn K cdln "_law_name" = true)
    (kln : PySem.W.keepIn K (.ref fln) = true)
    (alN : PySem.W.nsIn K mainGlobals "_law_names" = some (some (.ref flN)))
    (llN : K.lookup flN = some ⟨oclN, odlN, .func (PySem.W.fnOf "_law_names" "_law_names" (defArgs sLnames) (defBody sLnames) (defScope sLnames) .none kVlN dclN pmlN anlN cdlN ctlN), sllN⟩)
    (clN : PySem.W.codeIn K cdlN "_law_names" = true)
    (klN : PySem.W.keepIn K (.ref flN) = true)
    (ala : PySem.W.nsIn K mainGlobals "_law_alike" = some (some (.ref fla)))
    (lla : K.lookup fla = some ⟨ocla, odla, .func (PySem.W.fnOf "_law_alike" "_law_alike" (defArgs sLalike) (defBody sLalike) (defScope sLalike) .none kVla dcla pmla anla cdla ctla), slla⟩)
    (cla : PySem.W.codeIn K cdla "_law_alike" = true)
    (kla : PySem.W.keepIn K (.ref fla) = true)
    (abh : PySem.W.nsIn K mainGlobals "_law_bad_head" = some (some (.ref fbh)))
    (lbh : K.lookup fbh = some ⟨ocbh, odbh, .func (PySem.W.fnOf "_law_bad_head" "_law_bad_head" (defArgs sLbad_head) (defBody sLbad_head) (defScope sLbad_head) .none kVbh dcbh pmbh anbh cdbh ctbh), slbh⟩)
    (cbh : PySem.W.codeIn K cdbh "_law_bad_head" = true)
    (kbh : PySem.W.keepIn K (.ref fbh) = true)
    (abp : PySem.W.nsIn K mainGlobals "_law_bad_post" = some (some (.ref fbp)))
    (lbp : K.lookup fbp = some ⟨ocbp, odbp, .func (PySem.W.fnOf "_law_bad_post" "_law_bad_post" (defArgs sLbad_post) (defBody sLbad_post) (defScope sLbad_post) .none kVbp dcbp pmbp anbp cdbp ctbp), slbp⟩)
    (cbp : PySem.W.codeIn K cdbp "_law_bad_post" = true)
    (kbp : PySem.W.keepIn K (.ref fbp) = true)
    (abc : PySem.W.nsIn K mainGlobals "_law_bad_cost" = some (some (.ref fbc)))
    (lbc : K.lookup fbc = some ⟨ocbc, odbc, .func (PySem.W.fnOf "_law_bad_cost" "_law_bad_cost" (defArgs sLbad_cost) (defBody sLbad_cost) (defScope sLbad_cost) .none kVbc dcbc pmbc anbc cdbc ctbc), slbc⟩)
    (cbc : PySem.W.codeIn K cdbc "_law_bad_cost" = true)
    (kbc : PySem.W.keepIn K (.ref fbc) = true)
    (abw : PySem.W.nsIn K mainGlobals "_law_bad_words" = some (some (.ref fbw)))
    (lbw : K.lookup fbw = some ⟨ocbw, odbw, .func (PySem.W.fnOf "_law_bad_words" "_law_bad_words" (defArgs sLbad_words) (defBody sLbad_words) (defScope sLbad_words) .none kVbw dcbw pmbw anbw cdbw ctbw), slbw⟩)
    (cbw : PySem.W.codeIn K cdbw "_law_bad_words" = true)
    (kbw : PySem.W.keepIn K (.ref fbw) = true)
    (abs : PySem.W.nsIn K mainGlobals "_law_bad_sights" = some (some (.ref fbs)))
    (lbs : K.lookup fbs = some ⟨ocbs, odbs, .func (PySem.W.fnOf "_law_bad_sights" "_law_bad_sights" (defArgs sLbad_sights) (defBody sLbad_sights) (defScope sLbad_sights) .none kVbs dcbs pmbs anbs cdbs ctbs), slbs⟩)
    (cbs : PySem.W.codeIn K cdbs "_law_bad_sights" = true)
    (kbs : PySem.W.keepIn K (.ref fbs) = true)
    (aar : PySem.W.nsIn K mainGlobals "_law_arguments" = some (some (.ref far)))
    (lar : K.lookup far = some ⟨ocar, odar, .func (PySem.W.fnOf "_law_arguments" "_law_arguments" (defArgs sLarguments) (defBody sLarguments) (defScope sLarguments) .none kVar dcar pmar anar cdar ctar), slar⟩)
    (car : PySem.W.codeIn K cdar "_law_arguments" = true)
    (kar : PySem.W.keepIn K (.ref far) = true)
    (abu : PySem.W.nsIn K mainGlobals "_law_built" = some (some (.ref fbu)))
    (lbu : K.lookup fbu = some ⟨ocbu, odbu, .func (PySem.W.fnOf "_law_built" "_law_built" (defArgs sLbuilt) (defBody sLbuilt) (defScope sLbuilt) .none kVbu dcbu pmbu anbu cdbu ctbu), slbu⟩)
    (cbu : PySem.W.codeIn K cdbu "_law_built" = true)
    (kbu : PySem.W.keepIn K (.ref fbu) = true)
    (arf : PySem.W.nsIn K mainGlobals "_law_refused" = some (some (.ref frf)))
    (lrf : K.lookup frf = some ⟨ocrf, odrf, .func (PySem.W.fnOf "_law_refused" "_law_refused" (defArgs sLrefused) (defBody sLrefused) (defScope sLrefused) .none kVrf dcrf pmrf anrf cdrf ctrf), slrf⟩)
    (crf : PySem.W.codeIn K cdrf "_law_refused" = true)
    (krf : PySem.W.keepIn K (.ref frf) = true)
    (ate : PySem.W.nsIn K mainGlobals "_law_tells" = some (some (.ref fte)))
    (lte : K.lookup fte = some ⟨octe, odte, .func (PySem.W.fnOf "_law_tells" "_law_tells" (defArgs sLtells) (defBody sLtells) (defScope sLtells) .none kVte dcte pmte ante cdte ctte), slte⟩)
    (cte : PySem.W.codeIn K cdte "_law_tells" = true)
    (kte : PySem.W.keepIn K (.ref fte) = true)
    (ast : PySem.W.nsIn K mainGlobals "_law_sensor_tells" = some (some (.ref fst)))
    (lst : K.lookup fst = some ⟨ocst, odst, .func (PySem.W.fnOf "_law_sensor_tells" "_law_sensor_tells" (defArgs sLsensor_tells) (defBody sLsensor_tells) (defScope sLsensor_tells) .none kVst dcst pmst anst cdst ctst), slst⟩)
    (cst : PySem.W.codeIn K cdst "_law_sensor_tells" = true)
    (kst : PySem.W.keepIn K (.ref fst) = true)
    (atw : PySem.W.nsIn K mainGlobals "_law_twins" = some (some (.ref ftw)))
    (ltw : K.lookup ftw = some ⟨octw, odtw, .func (PySem.W.fnOf "_law_twins" "_law_twins" (defArgs sLtwins) (defBody sLtwins) (defScope sLtwins) .none kVtw dctw pmtw antw cdtw cttw), sltw⟩)
    (ctw : PySem.W.codeIn K cdtw "_law_twins" = true)
    (ktw : PySem.W.keepIn K (.ref ftw) = true)
    (alaw : PySem.W.nsIn K mainGlobals "law" = some (some (.ref flaw)))
    (llaw : K.lookup flaw = some ⟨oclaw, odlaw, .func (PySem.W.fnOf "law" "law" (defArgs sLaw) (defBody sLaw) (defScope sLaw) .none kVlaw dclaw pmlaw anlaw cdlaw ctlaw), sllaw⟩)
    (claw : PySem.W.codeIn K cdlaw "law" = true)
    (klaw : PySem.W.keepIn K (.ref flaw) = true) :
    ∃ fd : FuncData, (∀ (s : Shared) (v : Value), BindsTo s fd ⟨[v], []⟩ [("_law_script", v)]) ∧ ∀ base : Heap, K.In base → base.Ns mainGlobals mg → FnOk l.prog w K mg base CX0 8 fa fd ["_law_script"] (spLaw K) := by
  have e := hfa.symm.trans (PySem.W.mg_of X G alaw)
  cases e
  have T : Bl mg := ⟨PySem.W.mg_none_of X G zabs, PySem.W.mg_none_of X G zint, PySem.W.mg_none_of X G zlen, PySem.W.mg_none_of X G zmax, PySem.W.mg_none_of X G zrange, PySem.W.mg_none_of X G ztuple, PySem.W.mg_none_of X G zlist, PySem.W.mg_none_of X G zstr, PySem.W.mg_none_of X G zbool, PySem.W.mg_none_of X G zisinstance, PySem.W.mg_none_of X G zall, PySem.W.mg_none_of X G zsorted, PySem.W.mg_none_of X G zenumerate⟩
  have Vsm := PySem.W.mg_of X G vsm
  have Vmw := PySem.W.mg_of X G vmw
  have Vmc := PySem.W.mg_of X G vmc
  have hclxn : ∃ cd, PySem.W.clsIn K Cxn = some cd := ⟨_, by unfold PySem.W.clsIn; rw [xLxn]⟩
  have STxn : SupTxt l.prog K mg fxn cdxn ccxn Cxn := ⟨⟨_, _, _, _, _, lkxn, rfl, rfl⟩, ⟨_, _, _, _, _, _, coxnx, v2xn, flxn⟩, ⟨_, _, _, cexn⟩, hclxn, PySem.W.mg_none_of X G zsuper, ntop, opq⟩
  have OXxn : OexC K Cxn := ⟨⟨_, _, _, _, _, _, _, _, _, _, _, _, _, _, _, xLxn, rfl⟩, saxn, eCxn, tCxn, kCxn⟩
  have Xxn : ExcT l.prog w K mg "BadName" Cxn fxn "value" _ := ⟨OXxn, PySem.W.mg_of X G aCxn, iCxn, tIxn, Binds.all fun us hl => (match us, hl with | [_, _], _ => rfl), fun base => ok_exc lkxn hcxn STxn OXxn mrxn suxn bvxn nfxn (NdefX.nscope_by (by decide +kernel)) rfl ⟨_, _, _, _, _, _, _, _, _, _, rfl, fun _ => ⟨_, rfl⟩⟩ (by decide) (by decide)⟩
  have XFxn : XfC K Cxn := ⟨gaxn, ggxn, eCxn, hdxn⟩
  have XCxn : ExcC K Cxn := ⟨gaxn, ggxn, eCxn, hdxn, clxn, jb, jc, moxn⟩
  have hclxp : ∃ cd, PySem.W.clsIn K Cxp = some cd := ⟨_, by unfold PySem.W.clsIn; rw [xLxp]⟩
  have STxp : SupTxt l.prog K mg fxp cdxp ccxp Cxp := ⟨⟨_, _, _, _, _, lkxp, rfl, rfl⟩, ⟨_, _, _, _, _, _, coxpx, v2xp, flxp⟩, ⟨_, _, _, cexp⟩, hclxp, PySem.W.mg_none_of X G zsuper, ntop, opq⟩
  have OXxp : OexC K Cxp := ⟨⟨_, _, _, _, _, _, _, _, _, _, _, _, _, _, _, xLxp, rfl⟩, saxp, eCxp, tCxp, kCxp⟩
  have Xxp : ExcT l.prog w K mg "BadPost" Cxp fxp "value" _ := ⟨OXxp, PySem.W.mg_of X G aCxp, iCxp, tIxp, Binds.all fun us hl => (match us, hl with | [_, _], _ => rfl), fun base => ok_exc lkxp hcxp STxp OXxp mrxp suxp bvxp nfxp (NdefX.nscope_by (by decide +kernel)) rfl ⟨_, _, _, _, _, _, _, _, _, _, rfl, fun _ => ⟨_, rfl⟩⟩ (by decide) (by decide)⟩
  have XFxp : XfC K Cxp := ⟨gaxp, ggxp, eCxp, hdxp⟩
  have XCxp : ExcC K Cxp := ⟨gaxp, ggxp, eCxp, hdxp, clxp, jb, jc, moxp⟩
  have hclxg : ∃ cd, PySem.W.clsIn K Cxg = some cd := ⟨_, by unfold PySem.W.clsIn; rw [xLxg]⟩
  have STxg : SupTxt l.prog K mg fxg cdxg ccxg Cxg := ⟨⟨_, _, _, _, _, lkxg, rfl, rfl⟩, ⟨_, _, _, _, _, _, coxgx, v2xg, flxg⟩, ⟨_, _, _, cexg⟩, hclxg, PySem.W.mg_none_of X G zsuper, ntop, opq⟩
  have OXxg : OexC K Cxg := ⟨⟨_, _, _, _, _, _, _, _, _, _, _, _, _, _, _, xLxg, rfl⟩, saxg, eCxg, tCxg, kCxg⟩
  have Xxg : ExcT l.prog w K mg "BadSights" Cxg fxg "value" _ := ⟨OXxg, PySem.W.mg_of X G aCxg, iCxg, tIxg, Binds.all fun us hl => (match us, hl with | [_, _], _ => rfl), fun base => ok_exc lkxg hcxg STxg OXxg mrxg suxg bvxg nfxg (NdefX.nscope_by (by decide +kernel)) rfl ⟨_, _, _, _, _, _, _, _, _, _, rfl, fun _ => ⟨_, rfl⟩⟩ (by decide) (by decide)⟩
  have XFxg : XfC K Cxg := ⟨gaxg, ggxg, eCxg, hdxg⟩
  have XCxg : ExcC K Cxg := ⟨gaxg, ggxg, eCxg, hdxg, clxg, jb, jc, moxg⟩
  have hclxw : ∃ cd, PySem.W.clsIn K Cxw = some cd := ⟨_, by unfold PySem.W.clsIn; rw [xLxw]⟩
  have STxw : SupTxt l.prog K mg fxw cdxw ccxw Cxw := ⟨⟨_, _, _, _, _, lkxw, rfl, rfl⟩, ⟨_, _, _, _, _, _, coxwx, v2xw, flxw⟩, ⟨_, _, _, cexw⟩, hclxw, PySem.W.mg_none_of X G zsuper, ntop, opq⟩
  have OXxw : OexC K Cxw := ⟨⟨_, _, _, _, _, _, _, _, _, _, _, _, _, _, _, xLxw, rfl⟩, saxw, eCxw, tCxw, kCxw⟩
  have Xxw : ExcT l.prog w K mg "BadWords" Cxw fxw "value" _ := ⟨OXxw, PySem.W.mg_of X G aCxw, iCxw, tIxw, Binds.all fun us hl => (match us, hl with | [_, _], _ => rfl), fun base => ok_exc lkxw hcxw STxw OXxw mrxw suxw bvxw nfxw (NdefX.nscope_by (by decide +kernel)) rfl ⟨_, _, _, _, _, _, _, _, _, _, rfl, fun _ => ⟨_, rfl⟩⟩ (by decide) (by decide)⟩
  have XFxw : XfC K Cxw := ⟨gaxw, ggxw, eCxw, hdxw⟩
  have XCxw : ExcC K Cxw := ⟨gaxw, ggxw, eCxw, hdxw, clxw, jb, jc, moxw⟩
  have hclxc : ∃ cd, PySem.W.clsIn K Cxc = some cd := ⟨_, by unfold PySem.W.clsIn; rw [xLxc]⟩
  have STxc : SupTxt l.prog K mg fxc cdxc ccxc Cxc := ⟨⟨_, _, _, _, _, lkxc, rfl, rfl⟩, ⟨_, _, _, _, _, _, coxcx, v2xc, flxc⟩, ⟨_, _, _, cexc⟩, hclxc, PySem.W.mg_none_of X G zsuper, ntop, opq⟩
  have OXxc : OexC K Cxc := ⟨⟨_, _, _, _, _, _, _, _, _, _, _, _, _, _, _, xLxc, rfl⟩, saxc, eCxc, tCxc, kCxc⟩
  have Xxc : ExcT l.prog w K mg "BadCost" Cxc fxc "value" _ := ⟨OXxc, PySem.W.mg_of X G aCxc, iCxc, tIxc, Binds.all fun us hl => (match us, hl with | [_, _], _ => rfl), fun base => ok_exc lkxc hcxc STxc OXxc mrxc suxc bvxc nfxc (NdefX.nscope_by (by decide +kernel)) rfl ⟨_, _, _, _, _, _, _, _, _, _, rfl, fun _ => ⟨_, rfl⟩⟩ (by decide) (by decide)⟩
  have XFxc : XfC K Cxc := ⟨gaxc, ggxc, eCxc, hdxc⟩
  have XCxc : ExcC K Cxc := ⟨gaxc, ggxc, eCxc, hdxc, clxc, jb, jc, moxc⟩
  have TO : Told5 K mg Cxn Cxp Cxg Cxw Cxc CW := ⟨XFxn, XCxn, nfxn, kwxn, XFxp, XCxp, nfxp, kwxp, XFxg, XCxg, nfxg, kwxg, XFxw, XCxw, nfxw, kwxw, XFxc, XCxc, nfxc, kwxc, PySem.W.mg_of X G aCW, PySem.W.exm_ref eCxn hdxn tCxn uxnxn, PySem.W.exm_ref eCxn hdxn tCxn uxpxn, PySem.W.exm_ref eCxp hdxp tCxp uxpxp, PySem.W.exm_ref eCxn hdxn tCxn uxgxn, PySem.W.exm_ref eCxp hdxp tCxp uxgxp, PySem.W.exm_ref eCxg hdxg tCxg uxgxg, PySem.W.exm_ref eCxn hdxn tCxn uxwxn, PySem.W.exm_ref eCxp hdxp tCxp uxwxp, PySem.W.exm_ref eCxg hdxg tCxg uxwxg, PySem.W.exm_ref eCxw hdxw tCxw uxwxw, PySem.W.exm_ref eCxn hdxn tCxn uxcxn, PySem.W.exm_ref eCxp hdxp tCxp uxcxp, PySem.W.exm_ref eCxg hdxg tCxg uxcxg, PySem.W.exm_ref eCxw hdxw tCxw uxcxw, PySem.W.exm_ref eCxc hdxc tCxc uxcxc⟩
  have clS : Cls K CS := ⟨pgS, hdS, poS, saS⟩
  have mCS := PySem.W.mg_of X G aCS
  have JS : C8.InsC K CS := ⟨clS, jaS, jbS, jcS, jdS, if_pos (beq_self_eq_true _)⟩
  have KS : Kl K CS := ⟨clS, nST, nSP, nSF, nSS, nSO, JS⟩
  have MS : Mk K CS fSi := ⟨mkS, aiS, iiS, kcS⟩
  have hclSi : ∃ cd, PySem.W.clsIn K CS = some cd := let ⟨cd, hc, _⟩ := PySem.W.any_some hdS; ⟨cd, hc⟩
  have STSi : SupTxt l.prog K mg fSi cdSi ccSi CS := ⟨⟨_, _, _, _, _, lkSi, rfl, rfl⟩, ⟨_, _, _, _, _, _, coSix, v2Si, flSi⟩, ⟨_, _, _, ceSi⟩, hclSi, PySem.W.mg_none_of X G zsuper, ntop, opq⟩
  have biS : Binds K (PySem.W.fnX "__init__" "Sensor.__init__" (defArgs sSensor_init) (defBody sSensor_init) (defScope sSensor_init) [("__class__", ccSi)] .none .none dcSi pmSi none (.ref cdSi) ctSi) ["self", "name", "post", "sights", "cost"] [] := Binds.all fun us hl => (match us, hl with | [_, _, _, _, _], _ => rfl)
  have Fio := fun_mk (st := sInstrument_init) lio cio kio
  have bio := Fio.binds (ps := ["self", "name", "post", "cost"]) fun _ _ _ _ _ _ us hl => match us, hl with | [_, _, _, _], _ => rfl
  have Fhd := fun_mk (st := sInstrument_head) lhd chd khd
  have bhd := Fhd.binds (ps := ["self"]) fun _ _ _ _ _ _ us hl => match us, hl with | [_], _ => rfl
  have MHS : Meth K CS "head" fhd := ⟨hmS, hf, khd⟩
  have Pnm : PropOf K CS "name" pnm fnm := ⟨panm, pbnm, pcnm, _, pdnm⟩
  have Fnm := fun_mk (st := sInstrument_name) lnm cnm knm
  have bnm := Fnm.binds (ps := ["self"]) fun _ _ _ _ _ _ us hl => match us, hl with | [_], _ => rfl
  have Pps : PropOf K CS "post" pps fps := ⟨paps, pbps, pcps, _, pdps⟩
  have Fps := fun_mk (st := sInstrument_post) lps cps kps
  have bps := Fps.binds (ps := ["self"]) fun _ _ _ _ _ _ us hl => match us, hl with | [_], _ => rfl
  have Pcs : PropOf K CS "cost" pcs fcs := ⟨pacs, pbcs, pccs, _, pdcs⟩
  have Fcs := fun_mk (st := sInstrument_cost) lcs ccs kcs
  have bcs := Fcs.binds (ps := ["self"]) fun _ _ _ _ _ _ us hl => match us, hl with | [_], _ => rfl
  have Psw : PropOf K CS "words" psw fsw := ⟨pasw, pbsw, pcsw, _, pdsw⟩
  have Fsw := fun_mk (st := sSensor_words) lsw csw ksw
  have bsw := Fsw.binds (ps := ["self"]) fun _ _ _ _ _ _ us hl => match us, hl with | [_], _ => rfl
  have ES : EqC K CS fse := ⟨eaS, ebS, ecS, edS⟩
  have Fse := fun_mk (st := sSensor_eq) lse cse kse
  have bse := Fse.binds (ps := ["self", "other"]) fun _ _ _ _ _ _ us hl => match us, hl with | [_, _], _ => rfl
  have clL : Cls K CL := ⟨pgL, hdL, poL, saL⟩
  have mCL := PySem.W.mg_of X G aCL
  have JL : C8.InsC K CL := ⟨clL, jaL, jbL, jcL, jdL, if_pos (beq_self_eq_true _)⟩
  have KL : Kl K CL := ⟨clL, nLT, nLP, nLF, nLS, nLO, JL⟩
  have ML : Mk K CL fLi := ⟨mkL, aiL, iiL, kcL⟩
  have hclLi : ∃ cd, PySem.W.clsIn K CL = some cd := let ⟨cd, hc, _⟩ := PySem.W.any_some hdL; ⟨cd, hc⟩
  have STLi : SupTxt l.prog K mg fLi cdLi ccLi CL := ⟨⟨_, _, _, _, _, lkLi, rfl, rfl⟩, ⟨_, _, _, _, _, _, coLix, v2Li, flLi⟩, ⟨_, _, _, ceLi⟩, hclLi, PySem.W.mg_none_of X G zsuper, ntop, opq⟩
  have biL : Binds K (PySem.W.fnX "__init__" "Lock.__init__" (defArgs sLock_init) (defBody sLock_init) (defScope sLock_init) [("__class__", ccLi)] .none .none dcLi pmLi none (.ref cdLi) ctLi) ["self", "name", "post", "words", "cost"] [] := Binds.all fun us hl => (match us, hl with | [_, _, _, _, _], _ => rfl)
  have MHL : Meth K CL "head" fhd := ⟨hmL, hf, khd⟩
  have PLnm : PropOf K CL "name" pnm fnm := ⟨paLnm, pbnm, pcnm, _, pdnm⟩
  have PLps : PropOf K CL "post" pps fps := ⟨paLps, pbps, pcps, _, pdps⟩
  have PLcs : PropOf K CL "cost" pcs fcs := ⟨paLcs, pbcs, pccs, _, pdcs⟩
  have Plw : PropOf K CL "words" plw flw := ⟨palw, pblw, pclw, _, pdlw⟩
  have Flw := fun_mk (st := sLock_words) llw clw klw
  have blw := Flw.binds (ps := ["self"]) fun _ _ _ _ _ _ us hl => match us, hl with | [_], _ => rfl
  have EL : EqC K CL fle := ⟨eaL, ebL, ecL, edL⟩
  have Fle := fun_mk (st := sLock_eq) lle cle kle
  have ble := Fle.binds (ps := ["self", "other"]) fun _ _ _ _ _ _ us hl => match us, hl with | [_, _], _ => rfl
  have Pss : PropOf K CS "sights" pss fss := ⟨pass, pbss, pcss, _, pdss⟩
  have Fss := fun_mk (st := sSensor_sights) lss css kss
  have bss := Fss.binds (ps := ["self"]) fun _ _ _ _ _ _ us hl => match us, hl with | [_], _ => rfl
  have Fii := fun_mk (st := sIs_integer) lii cii kii
  have bii := Fii.binds (ps := ["thing"]) fun _ _ _ _ _ _ us hl => match us, hl with | [_], _ => rfl
  have Dii : Df K mg "is_integer" sIs_integer ["thing"] fii _ := ⟨Fii, PySem.W.mg_of X G aii, bii⟩
  have Fib := fun_mk (st := sIs_between) lib cib kib
  have bib := Fib.binds (ps := ["thing", "low", "high"]) fun _ _ _ _ _ _ us hl => match us, hl with | [_, _, _], _ => rfl
  have Dib : Df K mg "is_between" sIs_between ["thing", "low", "high"] fib _ := ⟨Fib, PySem.W.mg_of X G aib, bib⟩
  have Fin := fun_mk (st := sIs_name) lin cin kin
  have bin := Fin.binds (ps := ["thing"]) fun _ _ _ _ _ _ us hl => match us, hl with | [_], _ => rfl
  have Din : Df K mg "is_name" sIs_name ["thing"] fin _ := ⟨Fin, PySem.W.mg_of X G ain, bin⟩
  have Fir := fun_mk (st := sIs_row) lir cir kir
  have bir := Fir.binds (ps := ["thing"]) fun _ _ _ _ _ _ us hl => match us, hl with | [_], _ => rfl
  have Dir : Df K mg "is_row" sIs_row ["thing"] fir _ := ⟨Fir, PySem.W.mg_of X G air, bir⟩
  have Fan := fun_mk (st := sAre_names) lan can kan
  have ban := Fan.binds (ps := ["thing"]) fun _ _ _ _ _ _ us hl => match us, hl with | [_], _ => rfl
  have Dan : Df K mg "are_names" sAre_names ["thing"] fan _ := ⟨Fan, PySem.W.mg_of X G aan, ban⟩
  have Fas := fun_mk (st := sAre_sights) las cas kas
  have bas := Fas.binds (ps := ["thing"]) fun _ _ _ _ _ _ us hl => match us, hl with | [_], _ => rfl
  have Das : Df K mg "are_sights" sAre_sights ["thing"] fas _ := ⟨Fas, PySem.W.mg_of X G aas, bas⟩
  have Fch := fun_mk (st := sCheck_head) lch cch kch
  have bch := Fch.binds (ps := ["name", "post"]) fun _ _ _ _ _ _ us hl => match us, hl with | [_, _], _ => rfl
  have Dch : Df K mg "check_head" sCheck_head ["name", "post"] fch _ := ⟨Fch, PySem.W.mg_of X G ach, bch⟩
  have Fcc := fun_mk (st := sCheck_cost) lcc ccc kcc
  have bcc := Fcc.binds (ps := ["cost"]) fun _ _ _ _ _ _ us hl => match us, hl with | [_], _ => rfl
  have Dcc : Df K mg "check_cost" sCheck_cost ["cost"] fcc _ := ⟨Fcc, PySem.W.mg_of X G acc, bcc⟩
  have Flp := fun_mk (st := sLpool) llp clp klp
  have blp := Flp.binds (ps := ["_law_script"]) fun _ _ _ _ _ _ us hl => match us, hl with | [_], _ => rfl
  have Dlp : Df K mg "_law_pool" sLpool ["_law_script"] flp _ := ⟨Flp, PySem.W.mg_of X G alp, blp⟩
  have Fld := fun_mk (st := sLdraw) lld cld kld
  have bld := Fld.binds (ps := ["_law_pool_here", "_law_many"]) fun _ _ _ _ _ _ us hl => match us, hl with | [_, _], _ => rfl
  have Dld : Df K mg "_law_draw" sLdraw ["_law_pool_here", "_law_many"] fld _ := ⟨Fld, PySem.W.mg_of X G ald, bld⟩
  have Flk := fun_mk (st := sLpick) llk clk klk
  have blk := Flk.binds (ps := ["_law_pool_here", "_law_items"]) fun _ _ _ _ _ _ us hl => match us, hl with | [_, _], _ => rfl
  have Dlk : Df K mg "_law_pick" sLpick ["_law_pool_here", "_law_items"] flk _ := ⟨Flk, PySem.W.mg_of X G alk, blk⟩
  have Fln := fun_mk (st := sLname) lln cln kln
  have bln := Fln.binds (ps := ["_law_pool_here", "_law_taken"]) fun _ _ _ _ _ _ us hl => match us, hl with | [_, _], _ => rfl
  have Dln : Df K mg "_law_name" sLname ["_law_pool_here", "_law_taken"] fln _ := ⟨Fln, PySem.W.mg_of X G aln, bln⟩
  have FlN := fun_mk (st := sLnames) llN clN klN
  have blN := FlN.binds (ps := ["_law_pool_here", "_law_many"]) fun _ _ _ _ _ _ us hl => match us, hl with | [_, _], _ => rfl
  have DlN : Df K mg "_law_names" sLnames ["_law_pool_here", "_law_many"] flN _ := ⟨FlN, PySem.W.mg_of X G alN, blN⟩
  have Fla := fun_mk (st := sLalike) lla cla kla
  have bla := Fla.binds (ps := ["_law_one", "_law_other"]) fun _ _ _ _ _ _ us hl => match us, hl with | [_, _], _ => rfl
  have Dla : Df K mg "_law_alike" sLalike ["_law_one", "_law_other"] fla _ := ⟨Fla, PySem.W.mg_of X G ala, bla⟩
  have Fbh := fun_mk (st := sLbad_head) lbh cbh kbh
  have bbh := Fbh.binds (ps := ["_law_pool_here"]) fun _ _ _ _ _ _ us hl => match us, hl with | [_], _ => rfl
  have Dbh : Df K mg "_law_bad_head" sLbad_head ["_law_pool_here"] fbh _ := ⟨Fbh, PySem.W.mg_of X G abh, bbh⟩
  have Fbp := fun_mk (st := sLbad_post) lbp cbp kbp
  have bbp := Fbp.binds (ps := ["_law_pool_here"]) fun _ _ _ _ _ _ us hl => match us, hl with | [_], _ => rfl
  have Dbp : Df K mg "_law_bad_post" sLbad_post ["_law_pool_here"] fbp _ := ⟨Fbp, PySem.W.mg_of X G abp, bbp⟩
  have Fbc := fun_mk (st := sLbad_cost) lbc cbc kbc
  have bbc := Fbc.binds (ps := ["_law_pool_here"]) fun _ _ _ _ _ _ us hl => match us, hl with | [_], _ => rfl
  have Dbc : Df K mg "_law_bad_cost" sLbad_cost ["_law_pool_here"] fbc _ := ⟨Fbc, PySem.W.mg_of X G abc, bbc⟩
  have Fbw := fun_mk (st := sLbad_words) lbw cbw kbw
  have bbw := Fbw.binds (ps := ["_law_pool_here", "_law_words"]) fun _ _ _ _ _ _ us hl => match us, hl with | [_, _], _ => rfl
  have Dbw : Df K mg "_law_bad_words" sLbad_words ["_law_pool_here", "_law_words"] fbw _ := ⟨Fbw, PySem.W.mg_of X G abw, bbw⟩
  have Fbs := fun_mk (st := sLbad_sights) lbs cbs kbs
  have bbs := Fbs.binds (ps := ["_law_pool_here", "_law_words"]) fun _ _ _ _ _ _ us hl => match us, hl with | [_, _], _ => rfl
  have Dbs : Df K mg "_law_bad_sights" sLbad_sights ["_law_pool_here", "_law_words"] fbs _ := ⟨Fbs, PySem.W.mg_of X G abs, bbs⟩
  have Far := fun_mk (st := sLarguments) lar car kar
  have bar := Far.binds (ps := ["_law_pool_here"]) fun _ _ _ _ _ _ us hl => match us, hl with | [_], _ => rfl
  have Dar : Df K mg "_law_arguments" sLarguments ["_law_pool_here"] far _ := ⟨Far, PySem.W.mg_of X G aar, bar⟩
  have Fbu := fun_mk (st := sLbuilt) lbu cbu kbu
  have bbu := Fbu.binds (ps := ["_law_is_sensor", "_law_head", "_law_post", "_law_third", "_law_fee"]) fun _ _ _ _ _ _ us hl => match us, hl with | [_, _, _, _, _], _ => rfl
  have Dbu : Df K mg "_law_built" sLbuilt ["_law_is_sensor", "_law_head", "_law_post", "_law_third", "_law_fee"] fbu _ := ⟨Fbu, PySem.W.mg_of X G abu, bbu⟩
  have Frf := fun_mk (st := sLrefused) lrf crf krf
  have brf := Frf.binds (ps := ["_law_found", "_law_spoils", "_law_given", "_law_kinds"]) fun _ _ _ _ _ _ us hl => match us, hl with | [_, _, _, _], _ => rfl
  have Drf : Df K mg "_law_refused" sLrefused ["_law_found", "_law_spoils", "_law_given", "_law_kinds"] frf _ := ⟨Frf, PySem.W.mg_of X G arf, brf⟩
  have Fte := fun_mk (st := sLtells) lte cte kte
  have bte := Fte.binds (ps := ["_law_one", "_law_head", "_law_post", "_law_words", "_law_fee"]) fun _ _ _ _ _ _ us hl => match us, hl with | [_, _, _, _, _], _ => rfl
  have Dte : Df K mg "_law_tells" sLtells ["_law_one", "_law_head", "_law_post", "_law_words", "_law_fee"] fte _ := ⟨Fte, PySem.W.mg_of X G ate, bte⟩
  have Fst := fun_mk (st := sLsensor_tells) lst cst kst
  have bst := Fst.binds (ps := ["_law_one", "_law_shown"]) fun _ _ _ _ _ _ us hl => match us, hl with | [_, _], _ => rfl
  have Dst : Df K mg "_law_sensor_tells" sLsensor_tells ["_law_one", "_law_shown"] fst _ := ⟨Fst, PySem.W.mg_of X G ast, bst⟩
  have Ftw := fun_mk (st := sLtwins) ltw ctw ktw
  have btw := Ftw.binds (ps := ["_law_pool_here", "_law_head", "_law_post", "_law_shown", "_law_row", "_law_fee"]) fun _ _ _ _ _ _ us hl => match us, hl with | [_, _, _, _, _, _], _ => rfl
  have Dtw : Df K mg "_law_twins" sLtwins ["_law_pool_here", "_law_head", "_law_post", "_law_shown", "_law_row", "_law_fee"] ftw _ := ⟨Ftw, PySem.W.mg_of X G atw, btw⟩
  have Flaw := fun_mk (st := sLaw) llaw claw klaw
  have blaw := Flaw.binds (ps := ["_law_script"]) fun _ _ _ _ _ _ us hl => match us, hl with | [_], _ => rfl
  have C1 : Cst mg := ⟨_, Vsm⟩
  have C2 : Cm mg := ⟨⟨_, Vmw⟩, ⟨_, Vmc⟩⟩
  refine ⟨PySem.W.fnOf "law" "law" (defArgs sLaw) (defBody sLaw) (defScope sLaw) .none kVlaw dclaw pmlaw anlaw cdlaw ctlaw, fun s v => .of_eq rfl, fun base _ _ => ?_⟩
  have zdi : mg "dict" = none := PySem.W.mg_none_of X G zdict
  have G1 : FnOk l.prog w K mg base CX0 1 fin _ ["thing"] (spIsName K) := ok_is_name Din T C1
  have G2 : FnOk l.prog w K mg base CX0 2 fib _ ["thing", "low", "high"] (spIsBetween K) := ok_is_between Dib Dii T
  have G3 : FnOk l.prog w K mg base CX0 1 fir _ ["thing"] (spIsRow K) := ok_is_row Dir T
  have G4 : FnOk l.prog w K mg base CX0 2 fan _ ["thing"] (spAreN K) := ok_are_names Dan Dir G3 Din G1 T
  have G5 : FnOk l.prog w K mg base CX0 2 fas _ ["thing"] (spAreS K) := ok_are_sights Das Din G1 T zdi C2
  have G6 : FnOk l.prog w K mg base (L2.CX l.prog w) 3 fch _ ["name", "post"] (spHead K Cxn Cxp) := ok_head Dch Xxn Xxp Din G1 Dib G2
  have G7 : FnOk l.prog w K mg base (L2.CX l.prog w) 3 fcc _ ["cost"] (spCost K Cxc) := ok_cost Dcc Xxc Dib G2 C2
  have G8 : FnOk l.prog w K mg base CX0 1 fio _ ["self", "name", "post", "cost"] (spIInit K) := ok_iinit Fio
  have G9 := ok_sinit (w := w) (base := base) lkSi hcSi STSi KS mrSi suSi fnio tyio G8 bio Xxg Dch G6 Dcc G7 Das G5 T
  have G10 := ok_linit (w := w) (base := base) lkLi hcLi STLi KL mrLi suLi fnio tyio G8 bio Xxw Dch G6 Dcc G7 Dan G4 T (PySem.W.mg_none_of X G zset) C2
  have G11 : FnOk l.prog w K mg base CX0 1 fnm _ ["self"] (spFl K fun t _ _ => t) := ok_iname Fnm
  have G12 : FnOk l.prog w K mg base CX0 1 fps _ ["self"] (spFl K fun _ p _ => p) := ok_ipost Fps
  have G13 : FnOk l.prog w K mg base CX0 1 fcs _ ["self"] (spFl K fun _ _ c => c) := ok_icost Fcs
  have G14 : FnOk l.prog w K mg base CX0 1 fhd _ ["self"] (spIHead K) := ok_ihead Fhd
  have G15 : FnOk l.prog w K mg base CX0 1 fss _ ["self"] (spSights K CS) := ok_sights Fss zdi
  have G16 : FnOk l.prog w K mg base CX0 1 fsw _ ["self"] (spSWords K CS) := ok_swords Fsw T
  have G17 : FnOk l.prog w K mg base CX0 1 flw _ ["self"] (spLWords K CL) := ok_lwords Flw T
  have G18 : FnOk l.prog w K mg base CX0 2 fse _ ["self", "other"] (spSEq K CS CL) := ok_seq Fse T mCS KS KL kt1 MHS G14 bhd
  have G19 : FnOk l.prog w K mg base CX0 2 fle _ ["self", "other"] (spLEq K CL CS) := ok_leq Fle T mCL KL KS kt2 MHL G14 bhd
  have G20 : FnOk l.prog w K mg base CX0 1 flp _ ["_law_script"] (spPool K) := ok_pool Dlp T
  have G21 : FnOk l.prog w K mg base CX0 1 fld _ ["_law_pool_here", "_law_many"] spDraw := ok_draw Dld T
  have G22 : FnOk l.prog w K mg base CX0 2 flk _ ["_law_pool_here", "_law_items"] spPick := ok_pick Dlk Dld T
  have G23 : FnOk l.prog w K mg base CX0 2 fln _ ["_law_pool_here", "_law_taken"] spName := ok_name Dln Dld T
  have G24 : FnOk l.prog w K mg base CX0 3 flN _ ["_law_pool_here", "_law_many"] spNames := ok_names DlN Dln Dld T
  have G25 : FnOk l.prog w K mg base CX0 6 fla _ ["_law_one", "_law_other"] (spAl K 5) := ok_alike Dla T 5
  have G26 : FnOk l.prog w K mg base CX0 3 fbh _ ["_law_pool_here"] (spBadHead K) := ok_bad_head Dbh Dlk G22 T
  have G27 : FnOk l.prog w K mg base CX0 3 fbp _ ["_law_pool_here"] (spBadPost K) := ok_bad_post Dbp Dlk G22 T
  have G28 : FnOk l.prog w K mg base CX0 3 fbc _ ["_law_pool_here"] (spBadCost K) := ok_bad_cost Dbc Dlk G22 T
  have G29 : FnOk l.prog w K mg base CX0 3 fbw _ ["_law_pool_here", "_law_words"] (spBadWords K) := ok_bad_words Dbw Dlk G22 T
  have G30 : FnOk l.prog w K mg base CX0 3 fbs _ ["_law_pool_here", "_law_words"] (spBadSights K) := ok_bad_sights Dbs Dlk G22 T
  have G31 : FnOk l.prog w K mg base CX0 4 far _ ["_law_pool_here"] (spArgs K) := ok_args Dar Dld G21 DlN G24 Dbh G26 Dbp G27 Dbc G28 Dbw G29 Dbs G30 T
  have G32 : FnOk l.prog w K mg base CX0 7 fbu _ ["_law_is_sensor", "_law_head", "_law_post", "_law_third", "_law_fee"] (spBuilt K CS CL) := ok_built Dbu Xxn Xxp Xxg Xxw Xxc T TO mCS mCL MS G9 biS ML G10 biL
  have G33 : FnOk l.prog w K mg base CX0 7 frf _ ["_law_found", "_law_spoils", "_law_given", "_law_kinds"] (spRef K) := ok_refused Drf Dla G25 T
  have G34 : FnOk l.prog w K mg base CX0 7 fte _ ["_law_one", "_law_head", "_law_post", "_law_words", "_law_fee"] (spTells (AtS CS)) := ok_tells Dte Dla G25 T KS (tellS KS) Pnm G11 bnm Pps G12 bps Pcs G13 bcs Psw G16 bsw
  have G35 : FnOk l.prog w K mg base CX0 7 fte _ ["_law_one", "_law_head", "_law_post", "_law_words", "_law_fee"] (spTells (LokAt CL)) := ok_tells Dte Dla G25 T KL (tellL KL) PLnm G11 bnm PLps G12 bps PLcs G13 bcs Plw G17 blw
  have G36 : FnOk l.prog w K mg base CX0 3 fst _ ["_law_one", "_law_shown"] (spSTells CS) := ok_stells Dst T zdi KS Pss G15 bss
  have G37 : FnOk l.prog w K mg base CX0 7 ftw _ ["_law_pool_here", "_law_head", "_law_post", "_law_shown", "_law_row", "_law_fee"] spTwins := ok_twins Dtw Dld G21 Dln G23 DlN G24 T mCS mCL MS G9 biS ML G10 biL KS KL ES G18 bse EL G19 ble nf1 nf2 Pnm G11 bnm Pps G12 bps Pcs G13 bcs
  exact ok_law Flaw T zdi Dlp G20 Dar G31 Dbu G32 Drf G33 Dte G34 G35 Dst G36 Dtw G37
end WW
open PySem PySem.W PyProof.Rows in
set_option maxRecDepth 100000 in
set_option maxHeartbeats 0 in
theorem PySem.Challenge.cw_watchedworks_k20_instruments_and_their_a_holds : PySem.Challenge.rw_watchedworks_k20_instruments_and_their_a.Holds := by
  w_on; o_law; k_head; (case hw => w_witness2)
  k_fill
  refine L2.walk_of (l := PySem.Challenge.rw_watchedworks_k20_instruments_and_their_a) (n := 63) (k := 8) (x := "_law_script") (CX := fun _ => L2.CX0) (sp := fun w => WW.spLaw _) rfl (by decide) rfl ⟨rfl, by decide, by decide⟩ (fun w h Y => PySem.W.kIn_of Y) ?F (fun _ _ a ns hl _ hS => ⟨a, ns, rfl, hS, hl, fun _ => rfl⟩) (fun _ _ _ _ _ h => h)
  case F =>
    intro w mg fa h KX G hmg
    refine' WW.all_mk KX G hmg ?zabs ?zint ?zlen ?zmax ?zrange ?ztuple ?zlist ?zstr ?zbool ?zisinstance ?zall ?zsorted ?zenumerate ?zset ?zsuper ?zdict ?vsm ?vmw ?vmc ?ntop ?opq ?jb ?jc ?aCW ?aCxn ?xLxn ?saxn ?eCxn ?tCxn ?kCxn ?iCxn ?tIxn ?lkxn ?hcxn ?coxnx ?v2xn ?flxn ?cexn ?mrxn ?suxn ?bvxn ?nfxn ?gaxn ?ggxn ?hdxn ?clxn ?moxn ?kwxn ?aCxp ?xLxp ?saxp ?eCxp ?tCxp ?kCxp ?iCxp ?tIxp ?lkxp ?hcxp ?coxpx ?v2xp ?flxp ?cexp ?mrxp ?suxp ?bvxp ?nfxp ?gaxp ?ggxp ?hdxp ?clxp ?moxp ?kwxp ?aCxg ?xLxg ?saxg ?eCxg ?tCxg ?kCxg ?iCxg ?tIxg ?lkxg ?hcxg ?coxgx ?v2xg ?flxg ?cexg ?mrxg ?suxg ?bvxg ?nfxg ?gaxg ?ggxg ?hdxg ?clxg ?moxg ?kwxg ?aCxw ?xLxw ?saxw ?eCxw ?tCxw ?kCxw ?iCxw ?tIxw ?lkxw ?hcxw ?coxwx ?v2xw ?flxw ?cexw ?mrxw ?suxw ?bvxw ?nfxw ?gaxw ?ggxw ?hdxw ?clxw ?moxw ?kwxw ?aCxc ?xLxc ?saxc ?eCxc ?tCxc ?kCxc ?iCxc ?tIxc ?lkxc ?hcxc ?coxcx ?v2xc ?flxc ?cexc ?mrxc ?suxc ?bvxc ?nfxc ?gaxc ?ggxc ?hdxc ?clxc ?moxc ?kwxc ?uxnxn ?uxpxn ?uxpxp ?uxgxn ?uxgxp ?uxgxg ?uxwxn ?uxwxp ?uxwxg ?uxwxw ?uxcxn ?uxcxp ?uxcxg ?uxcxw ?uxcxc ?aCS ?pgS ?hdS ?poS ?saS ?nST ?nSP ?nSF ?nSS ?nSO ?jaS ?jbS ?jcS ?jdS ?mkS ?aiS ?iiS ?kcS ?lkSi ?hcSi ?coSix ?v2Si ?flSi ?ceSi ?mrSi ?suSi ?hmS ?lio ?cio ?kio ?fnio ?tyio ?lhd ?chd ?khd ?hf ?panm ?pbnm ?pcnm ?pdnm ?lnm ?cnm ?knm ?paps ?pbps ?pcps ?pdps ?lps ?cps ?kps ?pacs ?pbcs ?pccs ?pdcs ?lcs ?ccs ?kcs ?pasw ?pbsw ?pcsw ?pdsw ?lsw ?csw ?ksw ?eaS ?ebS ?ecS ?edS ?lse ?cse ?kse ?aCL ?pgL ?hdL ?poL ?saL ?nLT ?nLP ?nLF ?nLS ?nLO ?jaL ?jbL ?jcL ?jdL ?mkL ?aiL ?iiL ?kcL ?lkLi ?hcLi ?coLix ?v2Li ?flLi ?ceLi ?mrLi ?suLi ?hmL ?paLnm ?paLps ?paLcs ?palw ?pblw ?pclw ?pdlw ?llw ?clw ?klw ?eaL ?ebL ?ecL ?edL ?lle ?cle ?kle ?pass ?pbss ?pcss ?pdss ?lss ?css ?kss ?nf1 ?nf2 ?kt1 ?kt2 ?aii ?lii ?cii ?kii ?aib ?lib ?cib ?kib ?ain ?lin ?cin ?kin ?air ?lir ?cir ?kir ?aan ?lan ?can ?kan ?aas ?las ?cas ?kas ?ach ?lch ?cch ?kch ?acc ?lcc ?ccc ?kcc ?alp ?llp ?clp ?klp ?ald ?lld ?cld ?kld ?alk ?llk ?clk ?klk ?aln ?lln ?cln ?kln ?alN ?llN ?clN ?klN ?ala ?lla ?cla ?kla ?abh ?lbh ?cbh ?kbh ?abp ?lbp ?cbp ?kbp ?abc ?lbc ?cbc ?kbc ?abw ?lbw ?cbw ?kbw ?abs ?lbs ?cbs ?kbs ?aar ?lar ?car ?kar ?abu ?lbu ?cbu ?kbu ?arf ?lrf ?crf ?krf ?ate ?lte ?cte ?kte ?ast ?lst ?cst ?kst ?atw ?ltw ?ctw ?ktw ?alaw ?llaw ?claw ?klaw
    (case zabs => k_is)
    (case zint => k_is)
    (case zlen => k_is)
    (case zmax => k_is)
    (case zrange => k_is)
    (case ztuple => k_is)
    (case zlist => k_is)
    (case zstr => k_is)
    (case zbool => k_is)
    (case zisinstance => k_is)
    (case zall => k_is)
    (case zsorted => k_is)
    (case zenumerate => k_is)
    (case zset => k_is)
    (case zsuper => k_is)
    (case zdict => k_is)
    (case vsm => k_is)
    (case vmw => k_is)
    (case vmc => k_is)
    (case ntop => (first | rfl | decide +kernel))
    (case opq => k_is)
    (case jb => k_is)
    (case jc => k_is)
    (case aCW => k_is)
    (case aCxn => k_is)
    (case xLxn => k_is)
    (case saxn => k_is)
    (case eCxn => k_is)
    (case tCxn => k_is)
    (case kCxn => k_is)
    (case iCxn => k_is)
    (case tIxn => k_is)
    (case lkxn => k_is)
    (case hcxn => k_is)
    (case coxnx => k_is)
    (case v2xn => (rfl))
    (case flxn => (first | rfl | decide +kernel))
    (case cexn => k_is)
    (case mrxn => k_is)
    (case suxn => (first | ks_is | k_is))
    (case bvxn => k_is)
    (case nfxn => k_is)
    (case gaxn => k_is)
    (case ggxn => k_is)
    (case hdxn => k_is)
    (case clxn => k_is)
    (case moxn => k_is)
    (case kwxn => (first | kit_is | k_is))
    (case aCxp => k_is)
    (case xLxp => k_is)
    (case saxp => k_is)
    (case eCxp => k_is)
    (case tCxp => k_is)
    (case kCxp => k_is)
    (case iCxp => k_is)
    (case tIxp => k_is)
    (case lkxp => k_is)
    (case hcxp => k_is)
    (case coxpx => k_is)
    (case v2xp => (rfl))
    (case flxp => (first | rfl | decide +kernel))
    (case cexp => k_is)
    (case mrxp => k_is)
    (case suxp => (first | ks_is | k_is))
    (case bvxp => k_is)
    (case nfxp => k_is)
    (case gaxp => k_is)
    (case ggxp => k_is)
    (case hdxp => k_is)
    (case clxp => k_is)
    (case moxp => k_is)
    (case kwxp => (first | kit_is | k_is))
    (case aCxg => k_is)
    (case xLxg => k_is)
    (case saxg => k_is)
    (case eCxg => k_is)
    (case tCxg => k_is)
    (case kCxg => k_is)
    (case iCxg => k_is)
    (case tIxg => k_is)
    (case lkxg => k_is)
    (case hcxg => k_is)
    (case coxgx => k_is)
    (case v2xg => (rfl))
    (case flxg => (first | rfl | decide +kernel))
    (case cexg => k_is)
    (case mrxg => k_is)
    (case suxg => (first | ks_is | k_is))
    (case bvxg => k_is)
    (case nfxg => k_is)
    (case gaxg => k_is)
    (case ggxg => k_is)
    (case hdxg => k_is)
    (case clxg => k_is)
    (case moxg => k_is)
    (case kwxg => (first | kit_is | k_is))
    (case aCxw => k_is)
    (case xLxw => k_is)
    (case saxw => k_is)
    (case eCxw => k_is)
    (case tCxw => k_is)
    (case kCxw => k_is)
    (case iCxw => k_is)
    (case tIxw => k_is)
    (case lkxw => k_is)
    (case hcxw => k_is)
    (case coxwx => k_is)
    (case v2xw => (rfl))
    (case flxw => (first | rfl | decide +kernel))
    (case cexw => k_is)
    (case mrxw => k_is)
    (case suxw => (first | ks_is | k_is))
    (case bvxw => k_is)
    (case nfxw => k_is)
    (case gaxw => k_is)
    (case ggxw => k_is)
    (case hdxw => k_is)
    (case clxw => k_is)
    (case moxw => k_is)
    (case kwxw => (first | kit_is | k_is))
    (case aCxc => k_is)
    (case xLxc => k_is)
    (case saxc => k_is)
    (case eCxc => k_is)
    (case tCxc => k_is)
    (case kCxc => k_is)
    (case iCxc => k_is)
    (case tIxc => k_is)
    (case lkxc => k_is)
    (case hcxc => k_is)
    (case coxcx => k_is)
    (case v2xc => (rfl))
    (case flxc => (first | rfl | decide +kernel))
    (case cexc => k_is)
    (case mrxc => k_is)
    (case suxc => (first | ks_is | k_is))
    (case bvxc => k_is)
    (case nfxc => k_is)
    (case gaxc => k_is)
    (case ggxc => k_is)
    (case hdxc => k_is)
    (case clxc => k_is)
    (case moxc => k_is)
    (case kwxc => (first | kit_is | k_is))
    (case uxnxn => k_is)
    (case uxpxn => k_is)
    (case uxpxp => k_is)
    (case uxgxn => k_is)
    (case uxgxp => k_is)
    (case uxgxg => k_is)
    (case uxwxn => k_is)
    (case uxwxp => k_is)
    (case uxwxg => k_is)
    (case uxwxw => k_is)
    (case uxcxn => k_is)
    (case uxcxp => k_is)
    (case uxcxg => k_is)
    (case uxcxw => k_is)
    (case uxcxc => k_is)
    (case aCS => k_is)
    (case pgS => k_is)
    (case hdS => k_is)
    (case poS => k_is)
    (case saS => k_is)
    (case nST => k_is)
    (case nSP => k_is)
    (case nSF => k_is)
    (case nSS => k_is)
    (case nSO => k_is)
    (case jaS => k_is)
    (case jbS => k_is)
    (case jcS => k_is)
    (case jdS => k_is)
    (case mkS => k_is)
    (case aiS => k_is)
    (case iiS => k_is)
    (case kcS => k_is)
    (case lkSi => k_is)
    (case hcSi => k_is)
    (case coSix => k_is)
    (case v2Si => (rfl))
    (case flSi => (first | rfl | decide +kernel))
    (case ceSi => k_is)
    (case mrSi => k_is)
    (case suSi => (first | ks_is | k_is))
    (case hmS => k_is)
    (case lio => k_is)
    (case cio => k_is)
    (case kio => k_is)
    (case fnio => k_is)
    (case tyio => k_is)
    (case lhd => k_is)
    (case chd => k_is)
    (case khd => k_is)
    (case hf => k_is)
    (case panm => k_is)
    (case pbnm => k_is)
    (case pcnm => k_is)
    (case pdnm => k_is)
    (case lnm => k_is)
    (case cnm => k_is)
    (case knm => k_is)
    (case paps => k_is)
    (case pbps => k_is)
    (case pcps => k_is)
    (case pdps => k_is)
    (case lps => k_is)
    (case cps => k_is)
    (case kps => k_is)
    (case pacs => k_is)
    (case pbcs => k_is)
    (case pccs => k_is)
    (case pdcs => k_is)
    (case lcs => k_is)
    (case ccs => k_is)
    (case kcs => k_is)
    (case pasw => k_is)
    (case pbsw => k_is)
    (case pcsw => k_is)
    (case pdsw => k_is)
    (case lsw => k_is)
    (case csw => k_is)
    (case ksw => k_is)
    (case eaS => k_is)
    (case ebS => k_is)
    (case ecS => k_is)
    (case edS => k_is)
    (case lse => k_is)
    (case cse => k_is)
    (case kse => k_is)
    (case aCL => k_is)
    (case pgL => k_is)
    (case hdL => k_is)
    (case poL => k_is)
    (case saL => k_is)
    (case nLT => k_is)
    (case nLP => k_is)
    (case nLF => k_is)
    (case nLS => k_is)
    (case nLO => k_is)
    (case jaL => k_is)
    (case jbL => k_is)
    (case jcL => k_is)
    (case jdL => k_is)
    (case mkL => k_is)
    (case aiL => k_is)
    (case iiL => k_is)
    (case kcL => k_is)
    (case lkLi => k_is)
    (case hcLi => k_is)
    (case coLix => k_is)
    (case v2Li => (rfl))
    (case flLi => (first | rfl | decide +kernel))
    (case ceLi => k_is)
    (case mrLi => k_is)
    (case suLi => (first | ks_is | k_is))
    (case hmL => k_is)
    (case paLnm => k_is)
    (case paLps => k_is)
    (case paLcs => k_is)
    (case palw => k_is)
    (case pblw => k_is)
    (case pclw => k_is)
    (case pdlw => k_is)
    (case llw => k_is)
    (case clw => k_is)
    (case klw => k_is)
    (case eaL => k_is)
    (case ebL => k_is)
    (case ecL => k_is)
    (case edL => k_is)
    (case lle => k_is)
    (case cle => k_is)
    (case kle => k_is)
    (case pass => k_is)
    (case pbss => k_is)
    (case pcss => k_is)
    (case pdss => k_is)
    (case lss => k_is)
    (case css => k_is)
    (case kss => k_is)
    (case nf1 => (first | k_is | rfl | decide +kernel))
    (case nf2 => (first | k_is | rfl | decide +kernel))
    (case kt1 => (first | kit_is | k_is))
    (case kt2 => (first | kit_is | k_is))
    (case aii => k_is)
    (case lii => k_is)
    (case cii => k_is)
    (case kii => k_is)
    (case aib => k_is)
    (case lib => k_is)
    (case cib => k_is)
    (case kib => k_is)
    (case ain => k_is)
    (case lin => k_is)
    (case cin => k_is)
    (case kin => k_is)
    (case air => k_is)
    (case lir => k_is)
    (case cir => k_is)
    (case kir => k_is)
    (case aan => k_is)
    (case lan => k_is)
    (case can => k_is)
    (case kan => k_is)
    (case aas => k_is)
    (case las => k_is)
    (case cas => k_is)
    (case kas => k_is)
    (case ach => k_is)
    (case lch => k_is)
    (case cch => k_is)
    (case kch => k_is)
    (case acc => k_is)
    (case lcc => k_is)
    (case ccc => k_is)
    (case kcc => k_is)
    (case alp => k_is)
    (case llp => k_is)
    (case clp => k_is)
    (case klp => k_is)
    (case ald => k_is)
    (case lld => k_is)
    (case cld => k_is)
    (case kld => k_is)
    (case alk => k_is)
    (case llk => k_is)
    (case clk => k_is)
    (case klk => k_is)
    (case aln => k_is)
    (case lln => k_is)
    (case cln => k_is)
    (case kln => k_is)
    (case alN => k_is)
    (case llN => k_is)
    (case clN => k_is)
    (case klN => k_is)
    (case ala => k_is)
    (case lla => k_is)
    (case cla => k_is)
    (case kla => k_is)
    (case abh => k_is)
    (case lbh => k_is)
    (case cbh => k_is)
    (case kbh => k_is)
    (case abp => k_is)
    (case lbp => k_is)
    (case cbp => k_is)
    (case kbp => k_is)
    (case abc => k_is)
    (case lbc => k_is)
    (case cbc => k_is)
    (case kbc => k_is)
    (case abw => k_is)
    (case lbw => k_is)
    (case cbw => k_is)
    (case kbw => k_is)
    (case abs => k_is)
    (case lbs => k_is)
    (case cbs => k_is)
    (case kbs => k_is)
    (case aar => k_is)
    (case lar => k_is)
    (case car => k_is)
    (case kar => k_is)
    (case abu => k_is)
    (case lbu => k_is)
    (case cbu => k_is)
    (case kbu => k_is)
    (case arf => k_is)
    (case lrf => k_is)
    (case crf => k_is)
    (case krf => k_is)
    (case ate => k_is)
    (case lte => k_is)
    (case cte => k_is)
    (case kte => k_is)
    (case ast => k_is)
    (case lst => k_is)
    (case cst => k_is)
    (case kst => k_is)
    (case atw => k_is)
    (case ltw => k_is)
    (case ctw => k_is)
    (case ktw => k_is)
    (case alaw => k_is)
    (case llaw => k_is)
    (case claw => k_is)
    (case klaw => k_is)

